import PyProof.Rows.All
import Wide.All
import OpenK.AllK
import Wide.FinOn
import HandS.ForMost
import HandS.More
import HandS.DictComp
import HandS.Conv
import HandS.Zip
import HandS.Deep
import HandS.Wide
import HandS.IsInst
import HandS.TupAny
import HandS.TupMul
import HandS.SetFor
import HandS.TupSets
import KE.GoesEnum
import KE.KIndexOf
import HandS.Style
import KE.KeyNested
import KE.KDictKeyed
import KE.KDictWalk
import KE.GoesDict
import KE.SortData
import HandS.SetKeys
import HandS.EndBits
import PySem.Challenge.RW_sayingsdown_k43_whole_games_within_games
set_option Elab.async false
set_option linter.all false
set_option maxRecDepth 100000
namespace SD
open PySem PySem.Spec PyProof.Rows L2

/-! ## 1. values with their tuples, the heap of what changes -/
inductive D where
  | non | bl (b : Bool) | int (i : Int) | str (s : String) | tup (xs : List D) | ref (a : Addr) | cd (kvs : List (D × D)) | scr (ns : List Int)
noncomputable instance : DecidableEq D := fun a b => Classical.propDecidable (a = b)
/-- lists and dicts; l: locked (a loop walks it, or it is the script); t: its keys are tuples; tpl: a tuple whose methods are called -/
inductive MO where
  | lst (l : Bool) (xs : List D)
  | dic (l t : Bool) (kvs : List (D × D))
  | tpl (xs : List D)
abbrev Gp := Addr → Option MO
def gput (G : Gp) (a : Addr) (m : MO) : Gp := fun b => if b = a then some m else G b
theorem gput_same {G : Gp} {a : Addr} {m : MO} : gput G a m a = some m := by unfold gput; rw [if_pos rfl]
theorem gput_ne {G : Gp} {a b : Addr} {m : MO} (h : b ≠ a) : gput G a m b = G b := by unfold gput; rw [if_neg h]
theorem gput_gput {G : Gp} {a : Addr} {m n : MO} : gput (gput G a m) a n = gput G a n := by funext b; unfold gput; split <;> rfl

/-- the program, the world, what the top has written -/
structure Fx where
  P : Program
  w : World
  K : PySem.W.Frag
abbrev _root_.L2.Cx.fx (X : Cx) : Fx := ⟨X.prog, X.w, X.K⟩

def keyD : Key → D → Prop
  | .inl i, d => d = .int i
  | .inr x, d => ∃ s : String, d = .str s ∧ x = Str.ofString s
/-- a dict that the top has written -/
def CdOk (F : Fx) (a : Addr) (kvs : List (D × D)) : Prop :=
  kvs.length ≤ sizeLine ∧ (a == sysModules) = false ∧ ∃ ks : List (Key × Value), Paired (fun (p : Key × Value) (q : D × D) => keyD p.1 q.1 ∧ ∃ x : String, q.2 = .str x ∧ RelV (.str (Str.ofString x)) p.2) ks kvs ∧ ∀ h : Heap, F.K.In h → h.DictOf (mixKind F.P F.w) a ks
/-- the script: a list that stays -/
def Sc (F : Fx) (H : Hp) (a : Addr) (xs : List V) : Prop :=
  (∃ o, H a = some (.frz o (.lst xs))) ∨ ∃ (o : Obj) (its : Array Value) (n : Nat), F.K.lookup a = some o ∧ o.cls = .type "list" ∧ o.dict = none ∧ o.data = .seq its n ∧ its.size ≤ sizeLine ∧ Vals xs its.toList
theorem Sc.seq {F : Fx} {H : Hp} {a : Addr} {xs : List V} (h : Sc F H a xs) : SqL F.K H a xs := by
  rcases h with h | h
  · exact .inl (.inr h)
  · exact .inr h
mutual
inductive DV (F : Fx) (H : Hp) : V → D → Prop
  | non : DV F H .non .non
  | bl (b) : DV F H (.bl b) (.bl b)
  | int (i) : DV F H (.int i) (.int i)
  | str (s : String) : DV F H (.str (Str.ofString s)) (.str s)
  | tup {a vs ds} : SqT F.K H a vs → DVs F H vs ds → DV F H (.ref a) (.tup ds)
  | ref (a) : DV F H (.ref a) (.ref a)
  | cd {a kvs} : CdOk F a kvs → DV F H (.ref a) (.cd kvs)
  | scr {a ns} : Sc F H a (ns.map V.int) → DV F H (.ref a) (.scr ns)
inductive DVs (F : Fx) (H : Hp) : List V → List D → Prop
  | nil : DVs F H [] []
  | cons {v d vs ds} : DV F H v d → DVs F H vs ds → DVs F H (v :: vs) (d :: ds)
end
theorem DVs.length {F : Fx} {H : Hp} : ∀ {vs : List V} {ds : List D}, DVs F H vs ds → vs.length = ds.length
  | _, _, .nil => rfl
  | _, _, .cons _ t => by simp [DVs.length t]
theorem DVs.get {F : Fx} {H : Hp} : ∀ {vs : List V} {ds : List D} {i : Nat} {d : D}, DVs F H vs ds → ds[i]? = some d → ∃ v, vs[i]? = some v ∧ DV F H v d
  | _, _, _, _, .nil, e => by simp at e
  | _, _, 0, _, .cons r _, e => by simp at e; subst e; exact ⟨_, rfl, r⟩
  | _, _, i + 1, d, .cons _ t, e => by
    obtain ⟨v, h1, h2⟩ := DVs.get (i := i) (d := d) t (by simpa using e)
    exact ⟨v, by simpa using h1, h2⟩
theorem DVs.get' {F : Fx} {H : Hp} : ∀ {vs : List V} {ds : List D} {i : Nat} {v : V}, DVs F H vs ds → vs[i]? = some v → ∃ d, ds[i]? = some d ∧ DV F H v d
  | _, _, _, _, .nil, e => by simp at e
  | _, _, 0, _, .cons r _, e => by simp at e; subst e; exact ⟨_, rfl, r⟩
  | _, _, i + 1, v, .cons _ t, e => by
    obtain ⟨d, h1, h2⟩ := DVs.get' (i := i) (v := v) t (by simpa using e)
    exact ⟨d, by simpa using h1, h2⟩
theorem DVs.append {F : Fx} {H : Hp} : ∀ {vs ws : List V} {ds es : List D}, DVs F H vs ds → DVs F H ws es → DVs F H (vs ++ ws) (ds ++ es)
  | _, _, _, _, .nil, s => s
  | _, _, _, _, .cons r t, s => .cons r (DVs.append t s)
theorem DVs.one {F : Fx} {H : Hp} {v : V} {d : D} (h : DV F H v d) : DVs F H [v] [d] := .cons h .nil
theorem DVs.set {F : Fx} {H : Hp} {v : V} {d : D} (r : DV F H v d) : ∀ {vs : List V} {ds : List D} (i : Nat), DVs F H vs ds → DVs F H (vs.set i v) (ds.set i d)
  | _, _, _, .nil => .nil
  | _, _, 0, .cons _ t => .cons r t
  | _, _, i + 1, .cons q t => .cons q (DVs.set r i t)
theorem DVs.take {F : Fx} {H : Hp} : ∀ {vs : List V} {ds : List D} (n : Nat), DVs F H vs ds → DVs F H (vs.take n) (ds.take n)
  | _, _, 0, _ => .nil
  | _, _, _ + 1, .nil => .nil
  | _, _, n + 1, .cons r t => .cons r (DVs.take n t)
theorem DVs.drop {F : Fx} {H : Hp} : ∀ {vs : List V} {ds : List D} (n : Nat), DVs F H vs ds → DVs F H (vs.drop n) (ds.drop n)
  | _, _, 0, r => r
  | _, _, _ + 1, .nil => .nil
  | _, _, n + 1, .cons _ t => DVs.drop n t
theorem DVs.reverse {F : Fx} {H : Hp} : ∀ {vs : List V} {ds : List D}, DVs F H vs ds → DVs F H vs.reverse ds.reverse
  | _, _, .nil => .nil
  | _, _, .cons r t => by rw [List.reverse_cons, List.reverse_cons]; exact (DVs.reverse t).append (.one r)
theorem DVs.eraseIdx {F : Fx} {H : Hp} : ∀ {vs : List V} {ds : List D} (i : Nat), DVs F H vs ds → DVs F H (vs.eraseIdx i) (ds.eraseIdx i)
  | _, _, _, .nil => .nil
  | _, _, 0, .cons _ t => t
  | _, _, i + 1, .cons q t => .cons q (DVs.eraseIdx i t)
theorem DVs.dropLast {F : Fx} {H : Hp} {vs : List V} {ds : List D} (h : DVs F H vs ds) : DVs F H vs.dropLast ds.dropLast := by
  rw [List.dropLast_eq_take, List.dropLast_eq_take, h.length]
  exact h.take _
theorem DVs.replicate {F : Fx} {H : Hp} {v : V} {d : D} (h : DV F H v d) : ∀ n, DVs F H (List.replicate n v) (List.replicate n d)
  | 0 => .nil
  | n + 1 => .cons h (DVs.replicate h n)
theorem DVs.rep {F : Fx} {H : Hp} {vs : List V} {ds : List D} (h : DVs F H vs ds) : ∀ k : Nat, DVs F H (List.replicate k vs).flatten (List.replicate k ds).flatten
  | 0 => .nil
  | k + 1 => by rw [List.replicate_succ, List.replicate_succ, List.flatten_cons, List.flatten_cons]; exact h.append (DVs.rep h k)
/-- a value that holds no other: its tuples are known -/
theorem DVs.ints {F : Fx} {H : Hp} : ∀ {ns : List Int} {vs : List V}, DVs F H vs (ns.map D.int) → vs = ns.map V.int
  | [], _, .nil => rfl
  | _ :: _, _, .cons (.int _) t => by rw [DVs.ints t]; rfl
theorem DVs.bls {F : Fx} {H : Hp} : ∀ {ns : List Bool} {vs : List V}, DVs F H vs (ns.map D.bl) → vs = ns.map V.bl
  | [], _, .nil => rfl
  | _ :: _, _, .cons (.bl _) t => by rw [DVs.bls t]; rfl
theorem DVs.ofInts {F : Fx} {H : Hp} : ∀ (ns : List Int), DVs F H (ns.map V.int) (ns.map D.int)
  | [] => .nil
  | n :: r => .cons (.int n) (DVs.ofInts r)

/-! keys -/
def nk : D → NestedKey
  | .int i => .num i
  | .str s => .text (Str.ofString s)
  | .tup ds => .tup (nks ds)
  | _ => .none
where nks : List D → List NestedKey
  | [] => []
  | d :: ds => nk d :: nks ds
/-- how deep tuples are nested; 100 for what is no key -/
def lev : D → Nat
  | .non => 0
  | .int _ => 0
  | .str _ => 0
  | .tup ds => levs ds + 1
  | _ => 100
where levs : List D → Nat
  | [] => 0
  | d :: ds => max (lev d) (levs ds)

/-! dicts -/
def rawD (F : Fx) (a : Addr) (xs : List (NestedKey × Addr × Value)) : HO :=
  .ext fun h => xs.length ≤ sizeLine ∧ (a == sysModules) = false ∧ ∃ o es ep, h.get? a = some o ∧ o.ExactDict ∧ o.data = .dict es ep ∧ es.toList = xs.map (entryOfKey (nestedKind F.P F.w))
/-- a dict of whole numbers and texts -/
def DicK (F : Fx) (H : Hp) (kvs : List (D × D)) (u : HO) : Prop := ∃ ks : List (Key × V), u = .dK ks ∧ Paired (fun (p : Key × V) (q : D × D) => keyD p.1 q.1 ∧ DV F H p.2 q.2) ks kvs
/-- a dict of tuples -/
def DicT (F : Fx) (H : Hp) (a : Addr) (kvs : List (D × D)) (u : HO) : Prop := ∃ xs : List (NestedKey × Addr × Value), u = rawD F a xs ∧ (xs.map (·.1)).Nodup ∧
  Paired (fun (p : NestedKey × Addr × Value) (q : D × D) => p.1 = nk q.1 ∧ lev q.1 ≤ 8 ∧ (∃ ds, q.1 = .tup ds) ∧ DV F H (.ref p.2.1) q.1 ∧ ∃ v, RelV v p.2.2 ∧ DV F H v q.2) xs kvs
def lk (l : Bool) (H : Hp) (a : Addr) (u : HO) : Prop := if l = true then ∃ o, H a = some (.frz o u) else H a = some u
def MOk (F : Fx) (H : Hp) (a : Addr) : MO → Prop
  | .lst l ds => ∃ vs, DVs F H vs ds ∧ lk l H a (.lst vs)
  | .dic l false kvs => ∃ u, DicK F H kvs u ∧ lk l H a u
  | .dic l true kvs => ∃ u, DicT F H a kvs u ∧ lk l H a u
  | .tpl ds => ∃ vs o, DVs F H vs ds ∧ H a = some (.frz o (.tup vs)) ∧ o.dict = none
def AbsG (F : Fx) (H : Hp) (G : Gp) : Prop := ∀ a m, G a = some m → MOk F H a m
structure Keep (H : Hp) (G : Gp) (H' : Hp) (G' : Gp) : Prop where
  old : ∀ b o, H b = some o → G b = none → H' b = some o ∧ G' b = none
  frz : ∀ b o u, H b = some (.frz o u) → H' b = some (.frz o u)
theorem Keep.refl {H : Hp} {G : Gp} : Keep H G H G := ⟨fun _ _ e n => ⟨e, n⟩, fun _ _ _ e => e⟩
theorem Keep.trans {H H1 H2 : Hp} {G G1 G2 : Gp} (a : Keep H G H1 G1) (b : Keep H1 G1 H2 G2) : Keep H G H2 G2 :=
  ⟨fun c o e n => let ⟨e1, n1⟩ := a.old c o e n; b.old c o e1 n1, fun c o u e => b.frz c o u (a.frz c o u e)⟩
theorem lk.rd {l : Bool} {H : Hp} {a : Addr} {u : HO} (h : lk l H a u) : Rd H a u := by
  cases l with
  | false => exact .inl h
  | true => exact .inr h
/-- what is tracked as changing is no tuple -/
theorem MOk.notup {F : Fx} {H : Hp} {a : Addr} {m : MO} (x : MOk F H a m) {vs : List V} : H a ≠ some (.tup vs) := by
  intro e
  have key : ∀ l u, lk l H a u → u = .tup vs ∨ ∃ o, HO.tup vs = .frz o u := fun l u h => by
    cases l with
    | false => have h' : H a = some u := h; rw [e] at h'; cases h'; exact .inl rfl
    | true => obtain ⟨o, h'⟩ : ∃ o, H a = some (.frz o u) := h; rw [e] at h'; cases h'
  match m, x with
  | .lst l ds, ⟨_, _, h⟩ => rcases key l _ h with z | ⟨_, z⟩ <;> cases z
  | .dic l false kvs, ⟨_, ⟨_, rfl, _⟩, h⟩ => rcases key l _ h with z | ⟨_, z⟩ <;> cases z
  | .dic l true kvs, ⟨_, ⟨_, rfl, _⟩, h⟩ => rcases key l _ h with z | ⟨_, z⟩ <;> (unfold rawD at z; cases z)
  | .tpl ds, ⟨_, _, _, h, _⟩ => rw [e] at h; cases h
theorem SqT.keep {F : Fx} {H H' : Hp} {G G' : Gp} {a : Addr} {xs : List V} (A : AbsG F H G) (k : Keep H G H' G') (h : SqT F.K H a xs) : SqT F.K H' a xs := by
  rcases h with (h | ⟨o, h⟩) | h
  · cases e : G a with
    | none => exact .inl (.inl (k.old a _ h e).1)
    | some m => exact absurd h (A a m e).notup
  · exact .inl (.inr ⟨o, k.frz a o _ h⟩)
  · exact .inr h
theorem Sc.keep {F : Fx} {H H' : Hp} {G G' : Gp} (k : Keep H G H' G') {a : Addr} {xs : List V} (h : Sc F H a xs) : Sc F H' a xs := by
  rcases h with ⟨o, h⟩ | h
  · exact .inl ⟨o, k.frz a o _ h⟩
  · exact .inr h
mutual
theorem DV.keep {F : Fx} {H H' : Hp} {G G' : Gp} (A : AbsG F H G) (k : Keep H G H' G') : ∀ {v : V} {d : D}, DV F H v d → DV F H' v d
  | _, _, .non => .non
  | _, _, .bl b => .bl b
  | _, _, .int i => .int i
  | _, _, .str s => .str s
  | _, _, .tup h t => .tup (SqT.keep A k h) (DVs.keep A k t)
  | _, _, .ref a => .ref a
  | _, _, .cd h => .cd h
  | _, _, .scr h => .scr (h.keep k)
theorem DVs.keep {F : Fx} {H H' : Hp} {G G' : Gp} (A : AbsG F H G) (k : Keep H G H' G') : ∀ {vs : List V} {ds : List D}, DVs F H vs ds → DVs F H' vs ds
  | _, _, .nil => .nil
  | _, _, .cons h t => .cons (DV.keep A k h) (DVs.keep A k t)
end
theorem DicK.keep {F : Fx} {H H' : Hp} {G G' : Gp} (A : AbsG F H G) (k : Keep H G H' G') {kvs : List (D × D)} {u : HO} (h : DicK F H kvs u) : DicK F H' kvs u :=
  let ⟨ks, e, r⟩ := h; ⟨ks, e, Paired.mapP r fun _ _ z => ⟨z.1, z.2.keep A k⟩⟩
theorem DicT.keep {F : Fx} {H H' : Hp} {G G' : Gp} (A : AbsG F H G) (k : Keep H G H' G') {a : Addr} {kvs : List (D × D)} {u : HO} (h : DicT F H a kvs u) : DicT F H' a kvs u :=
  let ⟨ks, e, n, r⟩ := h; ⟨ks, e, n, Paired.mapP r fun _ _ ⟨z1, z2, z3, z4, v, z5, z6⟩ => ⟨z1, z2, z3, z4.keep A k, v, z5, z6.keep A k⟩⟩
/-- a tracked thing whose place in H stays -/
theorem MOk.keep {F : Fx} {H H' : Hp} {G G' : Gp} (A : AbsG F H G) (k : Keep H G H' G') {a : Addr} {m : MO} (h : MOk F H a m) (e : H' a = H a) : MOk F H' a m := by
  have lq : ∀ {l u}, lk l H a u → lk l H' a u := fun {l u} h => by unfold lk at *; rw [e]; exact h
  match m, h with
  | .lst l ds, ⟨vs, r, h⟩ => exact ⟨vs, r.keep A k, lq h⟩
  | .dic l false kvs, ⟨u, r, h⟩ => exact ⟨u, r.keep A k, lq h⟩
  | .dic l true kvs, ⟨u, r, h⟩ => exact ⟨u, r.keep A k, lq h⟩
  | .tpl ds, ⟨vs, o, r, h, n⟩ => exact ⟨vs, o, r.keep A k, by rw [e]; exact h, n⟩
theorem AbsG.sub {F : Fx} {H : Hp} {G G' : Gp} (A : AbsG F H G) (h : ∀ a m, G' a = some m → G a = some m) : AbsG F H G' := fun a m e => A a m (h a m e)
/-- a fresh place -/
theorem AbsG.free {F : Fx} {H : Hp} {G : Gp} (A : AbsG F H G) {p : Addr} (h : H p = none) : G p = none := by
  cases e : G p with
  | none => rfl
  | some m =>
    have x := A p m e
    have key : ∀ l u, ¬ lk l H p u := fun l u q => by
      cases l with
      | false => have q' : H p = some u := q; rw [h] at q'; cases q'
      | true => obtain ⟨o, q'⟩ : ∃ o, H p = some (.frz o u) := q; rw [h] at q'; cases q'
    match m, x with
    | .lst l ds, ⟨_, _, q⟩ => exact absurd q (key _ _)
    | .dic l false kvs, ⟨_, _, q⟩ => exact absurd q (key _ _)
    | .dic l true kvs, ⟨_, _, q⟩ => exact absurd q (key _ _)
    | .tpl ds, ⟨_, _, _, q, _⟩ => rw [h] at q; cases q
/-- something is laid at a fresh place and not tracked as changing (a tuple, or what is forgotten) -/
theorem Keep.lay {H : Hp} {G : Gp} {p : Addr} {o : HO} (h : H p = none) : Keep H G (upd H p o) G :=
  ⟨fun b u e n => ⟨by rw [upd_ne (ne_of_none e h)]; exact e, n⟩, fun b u v e => by rw [upd_ne (ne_of_none e h)]; exact e⟩
theorem AbsG.lay {F : Fx} {H : Hp} {G : Gp} (A : AbsG F H G) {p : Addr} {o : HO} (h : H p = none) : AbsG F (upd H p o) G := fun a m e => by
  have hne : a ≠ p := fun z => by rw [z, A.free h] at e; cases e
  exact (A a m e).keep A (Keep.lay h) (upd_ne hne)
/-- .. and tracked -/
theorem Keep.new {H : Hp} {G : Gp} {p : Addr} {o : HO} {m : MO} (h : H p = none) : Keep H G (upd H p o) (gput G p m) :=
  ⟨fun b u e n => ⟨by rw [upd_ne (ne_of_none e h)]; exact e, by rw [gput_ne (ne_of_none e h)]; exact n⟩, fun b u v e => by rw [upd_ne (ne_of_none e h)]; exact e⟩
theorem AbsG.put {F : Fx} {H H' : Hp} {G : Gp} (A : AbsG F H G) {p : Addr} {m : MO} (k : Keep H G H' (gput G p m)) (same : ∀ b, b ≠ p → H' b = H b) (hm : MOk F H' p m) : AbsG F H' (gput G p m) := fun a n e => by
  by_cases ha : a = p
  · subst ha; rw [gput_same] at e; cases e; exact hm
  · rw [gput_ne ha] at e
    exact (A a n e).keep A k (same a ha)
theorem AbsG.new {F : Fx} {H : Hp} {G : Gp} (A : AbsG F H G) {p : Addr} {o : HO} {m : MO} (h : H p = none) (hm : MOk F (upd H p o) p m) : AbsG F (upd H p o) (gput G p m) :=
  A.put (Keep.new h) (fun b hb => upd_ne hb) hm
/-- a tracked unlocked thing is changed -/
theorem Keep.write {F : Fx} {H : Hp} {G : Gp} {p : Addr} {o : HO} {m n : MO} (A : AbsG F H G) (h : G p = some n) (hf : ∀ ob u, H p ≠ some (.frz ob u)) : Keep H G (upd H p o) (gput G p m) :=
  ⟨fun b u e z => by
    have hb : b ≠ p := fun q => by rw [q, h] at z; cases z
    exact ⟨by rw [upd_ne hb]; exact e, by rw [gput_ne hb]; exact z⟩,
   fun b u v e => by
    have hb : b ≠ p := fun q => hf u v (by rw [← q]; exact e)
    rw [upd_ne hb]; exact e⟩
theorem AbsG.write {F : Fx} {H : Hp} {G : Gp} (A : AbsG F H G) {p : Addr} {o : HO} {m n : MO} (h : G p = some n) (hf : ∀ ob u, H p ≠ some (.frz ob u)) (hm : MOk F (upd H p o) p m) : AbsG F (upd H p o) (gput G p m) :=
  A.put (Keep.write A h hf) (fun b hb => upd_ne hb) hm

/-- a place that is new, seen from H and G -/
def Fr (H : Hp) (G : Gp) (a : Addr) : Prop := ∀ o, H a = some o → G a = none → False
theorem Keep.fr {H H1 : Hp} {G G1 : Gp} (k : Keep H G H1 G1) {p : Addr} (h : H1 p = none) : Fr H G p := fun o e n => by rw [(k.old p o e n).1] at h; cases h
theorem Fr.of {H H1 : Hp} {G G1 : Gp} (k : Keep H G H1 G1) {p : Addr} (h : Fr H1 G1 p) : Fr H G p := fun o e n => let ⟨e1, n1⟩ := k.old p o e n; h o e1 n1
/-- .. is tracked from now on -/
theorem Keep.track {H H1 : Hp} {G G1 : Gp} (k : Keep H G H1 G1) {p : Addr} {m : MO} (h : Fr H G p) : Keep H G H1 (gput G1 p m) :=
  ⟨fun b u e n => ⟨(k.old b u e n).1, by rw [gput_ne (fun z => by subst z; exact h u e n)]; exact (k.old b u e n).2⟩, k.frz⟩
theorem AbsG.track {F : Fx} {H : Hp} {G : Gp} (A : AbsG F H G) {p : Addr} {m : MO} (hm : MOk F H p m) : AbsG F H (gput G p m) := fun a n e => by
  by_cases ha : a = p
  · subst ha; rw [gput_same] at e; cases e; exact hm
  · rw [gput_ne ha] at e; exact A a n e
/-! ## 2. states and readings -/
abbrev St2 := List (Option D)
def slot : St2 → Nat → Option D
  | [], _ => none
  | x :: _, 0 => x
  | _ :: r, n + 1 => slot r n
abbrev VK2 := D → Gp → Prop
abbrev TE2 := St2 → Gp → VK2 → Prop
abbrev TT2 := St2 → Gp → (Bool → Gp → Prop) → Prop
abbrev TA2 := St2 → Gp → (List D → Gp → Prop) → Prop
structure En2 where
  nx : St2 → Gp → Prop
  rt : VK2
  bk : St2 → Gp → Prop := fun _ _ => False
  ct : St2 → Gp → Prop := fun _ _ => False
abbrev TS2 := En2 → St2 → Gp → Prop
def SV1 (F : Fx) (H : Hp) (x : Option V) : Option D → Prop
  | none => True
  | some d => ∃ v, x = some v ∧ DV F H v d
abbrev SV (F : Fx) (H : Hp) : L2.St → St2 → Prop := Paired (SV1 F H)
theorem SV.keep {F : Fx} {H H' : Hp} {G G' : Gp} (A : AbsG F H G) (k : Keep H G H' G') {σ : L2.St} {δ : St2} (h : SV F H σ δ) : SV F H' σ δ := Paired.mapP h fun x d z => by
  cases d with
  | none => trivial
  | some d => obtain ⟨v, e, r⟩ := z; exact ⟨v, e, r.keep A k⟩
theorem SV.slot {F : Fx} {H : Hp} : ∀ {σ : L2.St} {δ : St2} {i : Nat} {d : D}, SV F H σ δ → slot δ i = some d → ∃ v, σ[i]? = some (some v) ∧ DV F H v d
  | _, _, _, _, .nil, e => by simp [SD.slot] at e
  | x :: _, y :: _, 0, d, .cons r _, e => by
    have e' : y = some d := e
    subst e'
    obtain ⟨v, q, z⟩ := r
    exact ⟨v, by simp [q], z⟩
  | _, _, i + 1, d, .cons _ t, e => by
    obtain ⟨v, h1, h2⟩ := SV.slot (i := i) (d := d) t e
    exact ⟨v, by simpa using h1, h2⟩
theorem SV.set {F : Fx} {H : Hp} {v : V} {d : D} (r : DV F H v d) : ∀ {σ : L2.St} {δ : St2} (i : Nat), SV F H σ δ → SV F H (σ.set i (some v)) (δ.set i (some d))
  | _, _, _, .nil => .nil
  | _, _, 0, .cons _ t => .cons ⟨v, rfl, r⟩ t
  | _, _, i + 1, .cons q t => .cons q (SV.set r i t)
def wipe2 (δ : St2) : List Nat → St2
  | [] => δ
  | v :: vs => (wipe2 δ vs).set v none
theorem SV.setN {F : Fx} {H : Hp} : ∀ {σ : L2.St} {δ : St2} (i : Nat), SV F H σ δ → SV F H (σ.set i none) (δ.set i none)
  | _, _, _, .nil => .nil
  | _, _, 0, .cons _ t => .cons trivial t
  | _, _, i + 1, .cons q t => .cons q (SV.setN i t)
theorem SV.wipe {F : Fx} {H : Hp} {σ : L2.St} {δ : St2} (h : SV F H σ δ) : ∀ (vs : List Nat), SV F H (wipe σ vs) (wipe2 δ vs)
  | [] => h
  | i :: r => SV.setN i (SV.wipe h r)
structure Abs (F : Fx) (H : Hp) (σ : L2.St) (δ : St2) (G : Gp) : Prop where
  sv : SV F H σ δ
  hp : AbsG F H G
theorem Abs.to {F : Fx} {H H' : Hp} {σ : L2.St} {δ : St2} {G G' : Gp} (a : Abs F H σ δ G) (k : Keep H G H' G') (A : AbsG F H' G') : Abs F H' σ δ G' := ⟨a.sv.keep a.hp k, A⟩
/-- what follows -/
def Co (F : Fx) (H : Hp) (G : Gp) (Q2 : VK2) (Q : VK) : Prop := ∀ v H' d G', Keep H G H' G' → AbsG F H' G' → DV F H' v d → Q2 d G' → Q v H'
theorem Co.trans {F : Fx} {H H1 : Hp} {G G1 : Gp} {Q2 : VK2} {Q : VK} (c : Co F H G Q2 Q) (k : Keep H G H1 G1) : Co F H1 G1 Q2 Q := fun v H' d G' k' A r q => c v H' d G' (k.trans k') A r q
def up (F : Fx) (t : TE2) : TE := fun σ H Q => ∃ δ G Q2, Abs F H σ δ G ∧ t δ G Q2 ∧ Co F H G Q2 Q
def upT (F : Fx) (t : TT2) : TT := fun σ H Q => ∃ δ G Q2, Abs F H σ δ G ∧ t δ G Q2 ∧ ∀ b H' G', Keep H G H' G' → AbsG F H' G' → Q2 b G' → Q b H'
def EnCo (F : Fx) (H : Hp) (G : Gp) (D2 : En2) (D1 : Ends) : Prop :=
  (∀ σ H' δ G', Keep H G H' G' → Abs F H' σ δ G' → D2.nx δ G' → D1.nx σ H') ∧ Co F H G D2.rt D1.rt ∧
  (∀ σ H' δ G', Keep H G H' G' → Abs F H' σ δ G' → D2.bk δ G' → D1.bk σ H') ∧ (∀ σ H' δ G', Keep H G H' G' → Abs F H' σ δ G' → D2.ct δ G' → D1.ct σ H')
theorem EnCo.trans {F : Fx} {H H1 : Hp} {G G1 : Gp} {D2 : En2} {D1 : Ends} (c : EnCo F H G D2 D1) (k : Keep H G H1 G1) : EnCo F H1 G1 D2 D1 :=
  ⟨fun σ H' δ G' k' => c.1 σ H' δ G' (k.trans k'), c.2.1.trans k, fun σ H' δ G' k' => c.2.2.1 σ H' δ G' (k.trans k'), fun σ H' δ G' k' => c.2.2.2 σ H' δ G' (k.trans k')⟩
def upS (F : Fx) (t : TS2) : TS := fun D1 σ H => ∃ δ G D2, Abs F H σ δ G ∧ t D2 δ G ∧ EnCo F H G D2 D1
theorem _root_.L2.PE.imp {X : Cx} {e : Expr} {t t' : TE} (h : PE X e t) (i : ∀ σ H Q, t' σ H Q → t σ H Q) : PE X e t' := ⟨fun pins s σ H Q I q => h.run pins s σ H Q I (i _ _ _ q)⟩
theorem _root_.L2.PT.imp {X : Cx} {e : Expr} {t t' : TT} (h : PT X e t) (i : ∀ σ H Q, t' σ H Q → t σ H Q) : PT X e t' := ⟨fun pins s σ H Q I q => h.run pins s σ H Q I (i _ _ _ q)⟩
theorem _root_.L2.PW.imp {X : Cx} {e : Expr} {t t' : TT} (h : PW X e t) (i : ∀ σ H Q, t' σ H Q → t σ H Q) : PW X e t' := ⟨fun wh pins s σ H Q I q => h.run wh pins s σ H Q I (i _ _ _ q)⟩
theorem _root_.L2.PA.imp {X : Cx} {e : List Expr} {t t' : TA} (h : PA X e t) (i : ∀ σ H Q, t' σ H Q → t σ H Q) : PA X e t' := ⟨fun pos pins s σ H Q I q => h.run pos pins s σ H Q I (i _ _ _ q)⟩
theorem _root_.L2.PS.imp {X : Cx} {e : Stmt} {t t' : TS} (h : PS X e t) (i : ∀ D σ H, t' D σ H → t D σ H) : PS X e t' := ⟨fun pins s σ H D I q => h.run pins s σ H D I (i _ _ _ q)⟩
theorem _root_.L2.PSs.imp {X : Cx} {e : List Stmt} {t t' : TS} (h : PSs X e t) (i : ∀ D σ H, t' D σ H → t D σ H) : PSs X e t' := ⟨fun pins s σ H D I q => h.run pins s σ H D I (i _ _ _ q)⟩
abbrev PE2 (X : Cx) (e : Expr) (t : TE2) : Prop := PE X e (up X.fx t)
abbrev PT2 (X : Cx) (e : Expr) (t : TT2) : Prop := PT X e (upT X.fx t)
abbrev PW2 (X : Cx) (e : Expr) (t : TT2) : Prop := PW X e (upT X.fx t)
abbrev PS2 (X : Cx) (s : Stmt) (t : TS2) : Prop := PS X s (upS X.fx t)
abbrev PSs2 (X : Cx) (ss : List Stmt) (t : TS2) : Prop := PSs X ss (upS X.fx t)
end SD

set_option Elab.async false
set_option linter.all false
set_option maxRecDepth 100000
namespace SD
open PySem PySem.Spec PyProof.Rows L2
variable {X : Cx}

/-! ## 3. names, constants, displays -/
def dVar (i : Nat) : TE2 := fun δ G Q => match slot δ i with
  | some d => Q d G
  | none => False
def dC (d : D) : TE2 := fun _ G Q => Q d G
theorem pd_var (i : Nat) {x : Str} {pos : Pos} (hN : X.N[i]? = some x := by rfl) (hv : Vis X.env.scope x := by first | exact Or.inl rfl | exact Or.inr (Or.inl rfl) | exact Or.inr (Or.inr rfl)) (hd : (x == ("__debug__" : Str)) = false := by decide)
    (hcd : (x == ("__classdict__" : Str)) = false := by decide) : PE2 X (.Name x pos) (dVar i) := by
  refine (pe_var hN hv hd hcd).imp fun σ H Q ⟨δ, G, Q2, A, t, c⟩ => ?_
  unfold dVar at t
  cases e : slot δ i with
  | none => rw [e] at t; exact t.elim
  | some d =>
    rw [e] at t
    obtain ⟨v, h1, r⟩ := A.sv.slot e
    exact ⟨v, h1, c v H d G .refl A.hp r t⟩
theorem pd_const {e : Expr} {v : V} {d : D} (h : PE X e (tC v)) (r : ∀ H, DV X.fx H v d) : PE2 X e (dC d) :=
  h.imp fun σ H Q ⟨δ, G, Q2, A, t, c⟩ => c v H d G .refl A.hp (r H) t
theorem pd_int {i j pos} : PE2 X (.Constant (.int i) j pos) (dC (.int i)) := pd_const pe_int fun _ => .int i
theorem pd_bl {b j pos} : PE2 X (.Constant (.bool b) j pos) (dC (.bl b)) := pd_const pe_bl fun _ => .bl b
theorem pd_non {j pos} : PE2 X (.Constant .none j pos) (dC .non) := pd_const pe_non fun _ => .non
theorem pd_str {s : String} {j pos} : PE2 X (.Constant (.str (Str.ofString s)) j pos) (dC (.str s)) := pd_const pe_str fun _ => .str s
theorem pd_glob {x : Str} {v : V} {d : D} {u : Value} {pos : Pos} (hg : Gl X x) (hm : X.mg x = some u) (r : RelV v u) (dv : ∀ H, DV X.fx H v d) (hd : (x == ("__debug__" : Str)) = false := by decide) : PE2 X (.Name x pos) (dC d) :=
  pd_const (pe_glob hg hm r hd) dv
/-- a global that the top has written: what it is as data -/
structure GlOk (mg : Str → Option Value) (F : Fx) (x : Str) (d : D) : Prop where
  ok : ∃ v u, mg x = some u ∧ RelV v u ∧ ∀ H, DV F H v d
theorem pd_gl {x : Str} {d : D} {pos : Pos} (T : GlOk X.mg X.fx x d) (hg : Gl X x) (hd : (x == ("__debug__" : Str)) = false := by decide) : PE2 X (.Name x pos) (dC d) := by
  obtain ⟨v, u, hm, r, dv⟩ := T.ok
  exact pd_glob hg hm r dv hd

/-- argument lists, of n -/
def upA (F : Fx) (n : Nat) (t : TA2) : TA := fun σ H Q => ∃ δ G Q2, Abs F H σ δ G ∧ t δ G Q2 ∧ ∀ vs H' ds G', Keep H G H' G' → AbsG F H' G' → DVs F H' vs ds → ds.length = n → Q2 ds G' → Q vs H'
abbrev PA2 (X : Cx) (es : List Expr) (n : Nat) (t : TA2) : Prop := PA X es (upA X.fx n t)
def dNil : TA2 := fun _ G Q => Q [] G
def dCons (ta : TE2) (tr : TA2) : TA2 := fun δ G Q => ta δ G fun x G1 => tr δ G1 fun xs G2 => Q (x :: xs) G2
theorem pa_nil2 : PA2 X [] 0 dNil := pa_nil.imp fun σ H Q ⟨δ, G, Q2, A, t, c⟩ => c [] H [] G .refl A.hp .nil rfl t
theorem pa_cons2 {e : Expr} {es : List Expr} {n : Nat} {ta : TE2} {tr : TA2} (ha : PE2 X e ta) (hr : PA2 X es n tr) (hs : starEach (e :: es) X.env = (false, eval e X.env) :: starEach es X.env := by rfl) : PA2 X (e :: es) (n + 1) (dCons ta tr) := by
  refine (pa_cons ha hr hs).imp fun σ H Q ⟨δ, G, Q2, A, t, c⟩ => ?_
  refine ⟨δ, G, _, A, t, fun v H1 d G1 k1 A1 r1 q1 => ?_⟩
  refine ⟨δ, G1, _, A.to k1 A1, q1, fun vs H2 ds G2 k2 A2 r2 hl q2 => ?_⟩
  exact c _ H2 _ G2 (k1.trans k2) A2 (.cons (r1.keep A1 k2) r2) (by simp [hl]) q2
def dTup (t : TA2) : TE2 := fun δ G Q => t δ G fun ds G1 => Q (.tup ds) G1
theorem pd_tup {es : List Expr} {n k : Nat} {pos : Pos} {t : TA2} (h : PA2 X es n t) (hn : n ≤ sizeLine := by decide) : PE2 X (.Tuple es k pos) (dTup t) := by
  refine (pe_tup h).imp fun σ H Q ⟨δ, G, Q2, A, t, c⟩ => ?_
  refine ⟨δ, G, _, A, t, fun vs H1 ds G1 k1 A1 r1 hl q1 => ⟨by rw [r1.length, hl]; exact hn, fun p hp => ?_⟩⟩
  exact c _ _ _ G1 (k1.trans (.lay hp)) (A1.lay hp) (.tup (SqT.of upd_same) (r1.keep A1 (.lay hp))) q1

/-! ### lists that are not yet told of -/
def upL (F : Fx) (t : TA2) : TE := fun σ H Q => ∃ δ G Q2, Abs F H σ δ G ∧ t δ G Q2 ∧ ∀ a vs H' ds G', Keep H G H' G' → AbsG F H' G' → G' a = none → Fr H G a → H' a = some (.lst vs) → DVs F H' vs ds → Q2 ds G' → Q (.ref a) H'
abbrev PL2 (X : Cx) (e : Expr) (t : TA2) : Prop := PE X e (upL X.fx t)
theorem pl_lst {es : List Expr} {n : Nat} {pos : Pos} {t : TA2} (h : PA2 X es n t) (hn : n ≤ sizeLine := by decide) : PL2 X (.List es pos) t := by
  refine (pe_lst h).imp fun σ H Q ⟨δ, G, Q2, A, t, c⟩ => ?_
  refine ⟨δ, G, _, A, t, fun vs H1 ds G1 k1 A1 r1 hl q1 => ⟨by rw [r1.length, hl]; exact hn, fun p hp => ?_⟩⟩
  exact c p vs _ ds G1 (k1.trans (.lay hp)) (A1.lay hp) (A1.free hp) (k1.fr hp) upd_same (r1.keep A1 (.lay hp)) q1
/-- .. now told of -/
def dMat (t : TA2) : TE2 := fun δ G Q => t δ G fun ds G1 => ∀ p, G1 p = none → Q (.ref p) (gput G1 p (.lst false ds))
theorem pd_mat {e : Expr} {t : TA2} (h : PL2 X e t) : PE2 X e (dMat t) := h.imp fun σ H Q ⟨δ, G, Q2, A, t, c⟩ =>
  ⟨δ, G, _, A, t, fun a vs H' ds G' k A' n f e r q => c _ H' _ _ (k.track f) (A'.track (show MOk _ _ _ (.lst false ds) from ⟨vs, r, e⟩)) (.ref a) (q a n)⟩
/-- a sequence, to be read at once -/
def upQ (F : Fx) (t : TA2) : TE := fun σ H Q => ∃ δ G Q2, Abs F H σ δ G ∧ t δ G Q2 ∧ ∀ p vs H' ds G', Keep H G H' G' → AbsG F H' G' → (SqL F.K H' p vs ∨ SqT F.K H' p vs) → DVs F H' vs ds → Q2 ds G' → Q (.ref p) H'
abbrev PQ2 (X : Cx) (e : Expr) (t : TA2) : Prop := PE X e (upQ X.fx t)
def qE (t : TE2) : TA2 := fun δ G Q => t δ G fun d G1 => match d with
  | .tup ds => Q ds G1
  | .scr ns => Q (ns.map D.int) G1
  | .ref a => match G1 a with
    | some (.lst _ ds) => Q ds G1
    | some (.tpl ds) => Q ds G1
    | _ => False
  | _ => False
theorem pq_L {e : Expr} {t : TA2} (h : PL2 X e t) : PQ2 X e t := h.imp fun σ H Q ⟨δ, G, Q2, A, t, c⟩ =>
  ⟨δ, G, _, A, t, fun a vs H' ds G' k A' n f e r q => c a vs H' ds G' k A' (.inl (SqL.of e)) r q⟩
theorem AbsG.lst {F : Fx} {H : Hp} {G : Gp} (A : AbsG F H G) {a : Addr} {l : Bool} {ds : List D} (e : G a = some (.lst l ds)) : ∃ vs, DVs F H vs ds ∧ SqL F.K H a vs :=
  let ⟨vs, r, h⟩ := A a _ e; ⟨vs, r, .inl h.rd⟩
theorem pq_E {e : Expr} {t : TE2} (h : PE2 X e t) : PQ2 X e (qE t) := h.imp fun σ H Q ⟨δ, G, Q2, A, t, c⟩ =>
  ⟨δ, G, _, A, t, fun v H' d G' k A' r q => by
    cases r with
    | tup hs r => exact c _ _ H' _ G' k A' (.inr hs) r q
    | scr hs => exact c _ _ H' _ G' k A' (.inl hs.seq) (.ofInts _) q
    | ref a =>
      dsimp only at q
      split at q
      · rename_i l ds e
        obtain ⟨vs, r, hs⟩ := A'.lst e
        exact c _ _ H' _ G' k A' (.inl hs) r q
      · rename_i ds e
        obtain ⟨vs, o, r, hs, _⟩ := A' a _ e
        exact c _ _ H' _ G' k A' (.inr (.inl (.inr ⟨o, hs⟩))) r q
      · exact q.elim
    | _ => exact q.elim⟩

/-! ## 4. operators -/
abbrev R22 := D → D → Gp → VK2 → Prop
def dOp (r : R22) (ta tb : TE2) : TE2 := fun δ G Q => ta δ G fun x G1 => tb δ G1 fun y G2 => r x y G2 Q
def RelOp (F : Fx) (R : R2) (r : R22) : Prop := ∀ x y H dx dy G Q2 Q, AbsG F H G → DV F H x dx → DV F H y dy → r dx dy G Q2 → Co F H G Q2 Q → R x y H Q
theorem op_up {F : Fx} {R : R2} {r : R22} (h : RelOp F R r) {ta tb : TE2} {σ : L2.St} {H : Hp} {Q : VK} (q : up F (dOp r ta tb) σ H Q) : tOp R (up F ta) (up F tb) σ H Q := by
  obtain ⟨δ, G, Q2, A, t, c⟩ := q
  refine ⟨δ, G, _, A, t, fun x H1 dx G1 k1 A1 r1 q1 => ?_⟩
  refine ⟨δ, G1, _, A.to k1 A1, q1, fun y H2 dy G2 k2 A2 r2 q2 => ?_⟩
  exact h x y H2 dx dy G2 Q2 Q A2 (r1.keep A1 k2) r2 q2 (c.trans (k1.trans k2))
theorem pd_op {op : Operator} {a b : Expr} {ta tb : TE2} {R : R2} {r : R22} {pos : Pos} (ho : OpR X (binaryOp op) R) (h : RelOp X.fx R r) (ha : PE2 X a ta) (hb : PE2 X b tb) : PE2 X (.BinOp a op b pos) (dOp r ta tb) :=
  (pe_op ho ha hb).imp fun _ _ _ q => op_up h q
theorem pd_cmp {op : CmpOp} {a b : Expr} {ta tb : TE2} {R : R2} {r : R22} {pos : Pos} (ho : OpR X (compareOp op) R) (h : RelOp X.fx R r) (hm : behindInMarks op b = false) (ha : PE2 X a ta) (hb : PE2 X b tb) : PE2 X (.Compare a [op] [b] pos) (dOp r ta tb) :=
  (pe_cmpR ho ha hb hm).imp fun _ _ _ q => op_up h q
/-- two whole numbers -/
def oI (C : Int → Int → Prop) (g : Int → Int → D) : R22 := fun x y G Q => match x, y with
  | .int i, .int j => C i j ∧ Q (g i j) G
  | _, _ => False
theorem rel_I {F : Fx} {C : Int → Int → Prop} {g : Int → Int → V} {g2 : Int → Int → D} (hg : ∀ H i j, DV F H (g i j) (g2 i j)) : RelOp F (rI C g) (oI C g2) := by
  intro x y H dx dy G Q2 Q A rx ry q c
  cases rx <;> cases ry <;> first
    | exact q.elim
    | exact ⟨_, _, rfl, rfl, q.1, c _ H _ G .refl A (hg H _ _) q.2⟩
theorem rel_I0 {F : Fx} {g : Int → Int → V} {g2 : Int → Int → D} (hg : ∀ H i j, DV F H (g i j) (g2 i j)) : RelOp F (rI0 g) (oI (fun _ _ => True) g2) := by
  intro x y H dx dy G Q2 Q A rx ry q c
  cases rx <;> cases ry <;> first
    | exact q.elim
    | exact ⟨_, _, rfl, rfl, c _ H _ G .refl A (hg H _ _) q.2⟩
end SD

set_option Elab.async false
set_option linter.all false
set_option maxRecDepth 100000
namespace SD
open PySem PySem.Spec PyProof.Rows L2
variable {X : Cx}

/-! ## 5. equality -/
theorem ofString_inj {a b : String} (h : Str.ofString a = Str.ofString b) : a = b := by
  rw [Str.ofString_eq_toList, Str.ofString_eq_toList] at h
  injection h with h
  have h' : a.toList.map Char.toNat = b.toList.map Char.toNat := by simpa using congrArg Array.toList h
  have inj : ∀ l m : List Char, l.map Char.toNat = m.map Char.toNat → l = m := by
    intro l
    induction l with
    | nil => intro m e; cases m with
      | nil => rfl
      | cons _ _ => simp at e
    | cons c l ih => intro m e; cases m with
      | nil => simp at e
      | cons d m =>
        simp only [List.map_cons, List.cons.injEq] at e
        have hc : c = d := by
          have := e.1
          exact Char.ext (UInt32.toNat_inj.mp this)
        rw [hc, ih m e.2]
  exact String.toList_inj.mp (inj _ _ h')
theorem strOk_ofString (s : String) : PyData.strOk (Str.ofString s) = true := by
  rw [Str.ofString_eq_toList]
  show (Array.all _ _) = true
  rw [Array.all_eq_true]
  intro i hi
  simp only [List.size_toArray, List.length_map] at hi
  simp only [List.getElem_toArray, List.getElem_map]
  have hc : (s.toList[i]).val.toNat < 1114112 := by
    have h := (s.toList[i]).valid
    simp only [UInt32.isValidChar, Nat.isValidChar] at h
    omega
  exact decide_eq_true hc
def toPy : D → PyData
  | .non => .none
  | .bl b => .bool b
  | .int i => .int i
  | .str s => .str (Str.ofString s)
  | .tup ds => .tuple (toPys ds)
  | _ => .none
where toPys : List D → List PyData
  | [] => []
  | d :: ds => toPy d :: toPys ds
abbrev toPys := toPy.toPys
abbrev levs := lev.levs
mutual
theorem toPy_dp {F : Fx} {H : Hp} : ∀ (d : D) (v : V), lev d ≤ 60 → DV F H v d → Dp F.K H v (toPy d)
  | .non, _, _, h => by cases h; exact .non
  | .bl b, _, l, h => by simp [lev] at l
  | .int i, _, _, h => by cases h; exact .int i
  | .str s, _, _, h => by cases h; exact .str _
  | .tup ds, _, l, h => by
    cases h with
    | tup hs hr => exact .tup hs (toPy_dps ds _ (by simp only [lev] at l; omega) hr)
  | .ref a, _, l, h => by simp [lev] at l
  | .cd k, _, l, h => by simp [lev] at l
  | .scr k, _, l, h => by simp [lev] at l
theorem toPy_dps {F : Fx} {H : Hp} : ∀ (ds : List D) (vs : List V), lev.levs ds ≤ 60 → DVs F H vs ds → DpAll F.K H vs (toPy.toPys ds)
  | [], _, _, h => by cases h; exact .nil
  | d :: ds, _, l, h => by
    cases h with
    | cons h t => exact .cons (toPy_dp d _ (by simp only [lev.levs] at l; omega) h) (toPy_dps ds _ (by simp only [lev.levs] at l; omega) t)
end
mutual
theorem toPy_ok : ∀ (d : D), lev d ≤ 60 → (toPy d).canLay0 = true ∧ (toPy d).depth = lev d
  | .non, _ => ⟨rfl, rfl⟩
  | .bl b, l => by simp [lev] at l
  | .int i, _ => ⟨rfl, rfl⟩
  | .str s, _ => ⟨strOk_ofString s, rfl⟩
  | .tup ds, l => by
    have h := toPy_oks ds (by simp only [lev] at l; omega)
    exact ⟨h.1, congrArg (· + 1) h.2⟩
  | .ref a, l => by simp [lev] at l
  | .cd k, l => by simp [lev] at l
  | .scr k, l => by simp [lev] at l
theorem toPy_oks : ∀ (ds : List D), lev.levs ds ≤ 60 → PyData.canLayAll0 (toPy.toPys ds) = true ∧ PyData.depthAll (toPy.toPys ds) = lev.levs ds
  | [], _ => ⟨rfl, rfl⟩
  | d :: ds, l => by
    have h := toPy_ok d (by simp only [lev.levs] at l; omega)
    have t := toPy_oks ds (by simp only [lev.levs] at l; omega)
    refine ⟨?_, ?_⟩
    · show (PyData.canLay0 (toPy d) && PyData.canLayAll0 (toPy.toPys ds)) = true
      rw [h.1, t.1]; rfl
    · show max (PyData.depth (toPy d)) (PyData.depthAll (toPy.toPys ds)) = _
      rw [h.2, t.2]; rfl
end
theorem toPy_shaped {d : D} (l : lev d ≤ 60) : SeqAt.shaped (toPy d) = true := by
  obtain ⟨h1, h2⟩ := toPy_ok d l
  unfold SeqAt.shaped
  rw [h1, h2]
  simp; omega
mutual
theorem toPy_eqv : ∀ (d e : D), lev d ≤ 60 → lev e ≤ 60 → PyData.eqv (toPy d) (toPy e) = decide (d = e)
  | .bl b, _, l, _ => by simp [lev] at l
  | .ref b, _, l, _ => by simp [lev] at l
  | .cd b, _, l, _ => by simp [lev] at l
  | .scr b, _, l, _ => by simp [lev] at l
  | _, .bl b, _, l => by simp [lev] at l
  | _, .ref b, _, l => by simp [lev] at l
  | _, .cd b, _, l => by simp [lev] at l
  | _, .scr b, _, l => by simp [lev] at l
  | .tup ds, .tup es, l, m => by
    show PyData.eqvAll (toPy.toPys ds) (toPy.toPys es) = _
    rw [toPy_eqvs ds es (by simp only [lev] at l; omega) (by simp only [lev] at m; omega)]
    by_cases h : ds = es <;> simp [h]
  | .non, .non, _, _ => by simp [toPy, PyData.eqv]
  | .non, .int _, _, _ => by simp [toPy, PyData.eqv]
  | .non, .str _, _, _ => by simp [toPy, PyData.eqv]
  | .non, .tup _, _, _ => by simp [toPy, PyData.eqv]
  | .int i, .non, _, _ => by simp [toPy, PyData.eqv]
  | .int i, .int j, _, _ => by
    by_cases h : i = j <;> simp [toPy, PyData.eqv, h]
  | .int _, .str _, _, _ => by simp [toPy, PyData.eqv]
  | .int _, .tup _, _, _ => by simp [toPy, PyData.eqv]
  | .str _, .non, _, _ => by simp [toPy, PyData.eqv]
  | .str _, .int _, _, _ => by simp [toPy, PyData.eqv]
  | .str a, .str b, _, _ => by
    by_cases h : a = b
    · simp [toPy, PyData.eqv, h]
    · have h' : ¬ Str.ofString a = Str.ofString b := fun e => h (ofString_inj e)
      simp [toPy, PyData.eqv, h, h']
  | .str _, .tup _, _, _ => by simp [toPy, PyData.eqv]
  | .tup _, .non, _, _ => by simp [toPy, PyData.eqv]
  | .tup _, .int _, _, _ => by simp [toPy, PyData.eqv]
  | .tup _, .str _, _, _ => by simp [toPy, PyData.eqv]
theorem toPy_eqvs : ∀ (ds es : List D), lev.levs ds ≤ 60 → lev.levs es ≤ 60 → PyData.eqvAll (toPy.toPys ds) (toPy.toPys es) = decide (ds = es)
  | [], [], _, _ => by simp [toPy.toPys, PyData.eqvAll]
  | [], _ :: _, _, _ => by simp [toPy.toPys, PyData.eqvAll]
  | _ :: _, [], _, _ => by simp [toPy.toPys, PyData.eqvAll]
  | d :: ds, e :: es, l, m => by
    show (PyData.eqv (toPy d) (toPy e) && PyData.eqvAll (toPy.toPys ds) (toPy.toPys es)) = _
    rw [toPy_eqv d e (by simp only [lev.levs] at l; omega) (by simp only [lev.levs] at m; omega), toPy_eqvs ds es (by simp only [lev.levs] at l; omega) (by simp only [lev.levs] at m; omega)]
    by_cases h1 : d = e <;> by_cases h2 : ds = es <;> simp [h1, h2]
end
/-- == of what the programs compare -/
noncomputable def eqB (G : Gp) (x y : D) : Option Bool := match x, y with
  | .bl a, .bl b => some (decide (a = b))
  | .ref a, .ref b => match G a, G b with
    | some (.lst _ xs), some (.lst _ ys) => if levs xs ≤ 59 ∧ levs ys ≤ 59 then some (decide (xs = ys)) else none
    | _, _ => none
  | .non, .ref b => match G b with
    | some (.lst _ ys) => if levs ys ≤ 59 then some false else none
    | _ => none
  | x, y => if lev x ≤ 60 ∧ lev y ≤ 60 then some (decide (x = y)) else none
noncomputable def oEq : R22 := fun x y G Q => match eqB G x y with
  | some b => Q (.bl b) G
  | none => False
noncomputable def oNe : R22 := fun x y G Q => match eqB G x y with
  | some b => Q (.bl (!b)) G
  | none => False
theorem eqB_dp {F : Fx} {H : Hp} {G : Gp} (A : AbsG F H G) {x y : V} {dx dy : D} {b : Bool} (rx : DV F H x dx) (ry : DV F H y dy) (e : eqB G dx dy = some b) :
    ∃ d f, Dp F.K H x d ∧ Dp F.K H y f ∧ SeqAt.shaped d = true ∧ SeqAt.shaped f = true ∧ PyData.eqv d f = b := by
  have lists : ∀ {a : Addr} {l : Bool} {ds : List D}, G a = some (.lst l ds) → levs ds ≤ 59 → Dp F.K H (.ref a) (.list (toPys ds)) ∧ SeqAt.shaped (.list (toPys ds)) = true := fun {a l ds} h hl => by
    obtain ⟨vs, r, hs⟩ := A.lst h
    have hl' : lev.levs ds ≤ 60 := Nat.le_trans hl (by decide)
    refine ⟨.lst hs (toPy_dps ds vs hl' r), ?_⟩
    obtain ⟨h1, h2⟩ := toPy_oks ds hl'
    unfold SeqAt.shaped
    show (PyData.canLayAll0 (toPys ds) && decide (PyData.depthAll (toPys ds) + 1 ≤ 64)) = true
    rw [show PyData.canLayAll0 (toPys ds) = true from h1, show PyData.depthAll (toPys ds) = levs ds from h2]
    simp; omega
  unfold eqB at e
  split at e
  · cases rx; cases ry
    refine ⟨_, _, .bl _, .bl _, rfl, rfl, ?_⟩
    rename_i a b'
    show (a == b') = b
    have := Option.some.inj e
    rw [← this]; exact Bool.beq_eq_decide_eq a b'
  · rename_i a b'
    split at e
    · rename_i l xs l' ys h1 h2
      split at e
      · rename_i hl
        cases rx; cases ry
        obtain ⟨d1, s1⟩ := lists h1 hl.1
        obtain ⟨d2, s2⟩ := lists h2 hl.2
        refine ⟨_, _, d1, d2, s1, s2, ?_⟩
        show PyData.eqvAll (toPys xs) (toPys ys) = b
        rw [toPy_eqvs xs ys (Nat.le_trans hl.1 (by decide)) (Nat.le_trans hl.2 (by decide))]
        exact Option.some.inj e
      · cases e
    · cases e
  · rename_i b'
    split at e
    · rename_i l ys h2
      split at e
      · rename_i hl
        cases rx; cases ry
        obtain ⟨d2, s2⟩ := lists h2 hl
        exact ⟨_, _, .non, d2, rfl, s2, Option.some.inj e⟩
      · cases e
    · cases e
  · split at e
    · rename_i hl
      refine ⟨_, _, toPy_dp _ _ hl.1 rx, toPy_dp _ _ hl.2 ry, toPy_shaped hl.1, toPy_shaped hl.2, ?_⟩
      rw [toPy_eqv _ _ hl.1 hl.2]
      exact Option.some.inj e
    · cases e
theorem rel_eq {F : Fx} : RelOp F (rEqD F.K) oEq := by
  intro x y H dx dy G Q2 Q A rx ry q c
  unfold oEq at q
  cases e : eqB G dx dy with
  | none => rw [e] at q; exact q.elim
  | some b =>
    rw [e] at q
    obtain ⟨d, f, h1, h2, h3, h4, h5⟩ := eqB_dp A rx ry e
    refine ⟨d, f, h1, h2, h3, h4, ?_⟩
    rw [h5]
    exact c _ H _ G .refl A (.bl b) q
theorem rel_ne {F : Fx} : RelOp F (rNeD F.K) oNe := by
  intro x y H dx dy G Q2 Q A rx ry q c
  unfold oNe at q
  cases e : eqB G dx dy with
  | none => rw [e] at q; exact q.elim
  | some b =>
    rw [e] at q
    obtain ⟨d, f, h1, h2, h3, h4, h5⟩ := eqB_dp A rx ry e
    refine ⟨d, f, h1, h2, h3, h4, ?_⟩
    rw [h5]
    exact c _ H _ G .refl A (.bl _) q
end SD

set_option Elab.async false
set_option linter.all false
set_option maxRecDepth 100000
namespace SD
open PySem PySem.Spec PyProof.Rows L2
variable {X : Cx}

/-! ## 6. dicts -/
noncomputable def dget (kvs : List (D × D)) (k : D) : Option D := (kvs.find? fun p => decide (p.1 = k)).map (·.2)
noncomputable def dput (kvs : List (D × D)) (k v : D) : List (D × D) :=
  if (dget kvs k).isSome = true then kvs.map (fun p => if p.1 = k then (p.1, v) else p) else kvs ++ [(k, v)]
theorem dget_nil {k : D} : dget [] k = none := rfl
theorem dget_pos {p : D × D} {r : List (D × D)} {k : D} (e : p.1 = k) : dget (p :: r) k = some p.2 := by simp [dget, List.find?_cons, e]
theorem dget_neg {p : D × D} {r : List (D × D)} {k : D} (e : ¬ p.1 = k) : dget (p :: r) k = dget r k := by simp [dget, List.find?_cons, e]
theorem dput_length (kvs : List (D × D)) (k v : D) : (dput kvs k v).length ≤ kvs.length + 1 := by
  unfold dput; split <;> simp
def KeyC : Bool → D → Prop
  | false, .int _ => True
  | false, .str _ => True
  | true, .tup ds => lev (.tup ds) ≤ 8
  | _, _ => False
theorem keyD_of {d : D} (h : KeyC false d) : ∃ k, keyD k d := by
  cases d <;> first
    | exact h.elim
    | exact ⟨.inl _, rfl⟩
    | exact ⟨.inr _, _, rfl, rfl⟩
theorem keyD_inj {a b : Key} {d e : D} (ha : keyD a d) (hb : keyD b e) : (a = b) ↔ (d = e) := by
  cases a with
  | inl i =>
    cases ha
    cases b with
    | inl j => cases hb; constructor <;> (intro h; cases h; rfl)
    | inr y => obtain ⟨t, rfl, rfl⟩ := hb; constructor <;> (intro h; cases h)
  | inr x =>
    obtain ⟨s, rfl, rfl⟩ := ha
    cases b with
    | inl j => cases hb; constructor <;> (intro h; cases h)
    | inr y =>
      obtain ⟨t, rfl, rfl⟩ := hb
      constructor
      · intro h; injection h with h; rw [ofString_inj h]
      · intro h; injection h with h; rw [h]
theorem keyD_rel {F : Fx} {H : Hp} {k : Key} {d : D} {v : V} (h : keyD k d) (r : DV F H v d) : v = kV k := by
  cases k with
  | inl i => cases h; cases r; rfl
  | inr x => obtain ⟨s, rfl, rfl⟩ := h; cases r; rfl
theorem keyD_dv {F : Fx} {H : Hp} {k : Key} {d : D} (h : keyD k d) : DV F H (kV k) d := by
  cases k with
  | inl i => cases h; exact .int i
  | inr x => obtain ⟨s, rfl, rfl⟩ := h; exact .str s
/-- two tables of the same keys -/
theorem tab_get {α β : Type} [DecidableEq α] {γ : Type} {R : α → D → Prop} {S : β → γ → Prop} (inj : ∀ {a b d e}, R a d → R b e → ((a = b) ↔ (d = e))) {k : α} {dk : D} (hk : R k dk) :
    ∀ {ks : List (α × β)} {kvs : List (D × γ)}, Paired (fun p q => R p.1 q.1 ∧ S p.2 q.2) ks kvs → 
      match ks.find? (fun p => decide (p.1 = k)), kvs.find? (fun p => decide (p.1 = dk)) with
      | some a, some b => R a.1 b.1 ∧ S a.2 b.2
      | none, none => True
      | _, _ => False
  | _, _, .nil => trivial
  | p :: ks, q :: kvs, .cons ⟨h1, h2⟩ t => by
    rw [List.find?_cons, List.find?_cons]
    by_cases e : p.1 = k
    · have e' : q.1 = dk := (inj h1 hk).mp e
      simp only [e, e', decide_true]
      exact ⟨e ▸ e' ▸ h1, h2⟩
    · have e' : ¬ q.1 = dk := fun z => e ((inj h1 hk).mpr z)
      simp only [e, e', decide_false]
      exact tab_get inj hk t
abbrev DKR (F : Fx) (H : Hp) : List (Key × V) → List (D × D) → Prop := Paired fun p q => keyD p.1 q.1 ∧ DV F H p.2 q.2
theorem DKR.get {F : Fx} {H : Hp} {ks : List (Key × V)} {kvs : List (D × D)} (h : DKR F H ks kvs) {k : Key} {dk : D} (hk : keyD k dk) :
    (∃ v d, valV ks k = some v ∧ dget kvs dk = some d ∧ DV F H v d) ∨ (valV ks k = none ∧ dget kvs dk = none) := by
  have q := tab_get (R := keyD) (S := DV F H) (fun a b => keyD_inj a b) hk h
  unfold valV dget
  cases e1 : ks.find? (fun p => decide (p.1 = k)) <;> cases e2 : kvs.find? (fun p => decide (p.1 = dk)) <;> rw [e1, e2] at q
  · exact .inr ⟨rfl, rfl⟩
  · exact q.elim
  · exact q.elim
  · exact .inl ⟨_, _, rfl, rfl, q.2⟩
theorem DKR.mapv {F : Fx} {H : Hp} {k : Key} {dk : D} (hk : keyD k dk) {v : V} {d : D} (r : DV F H v d) : ∀ {ks : List (Key × V)} {kvs : List (D × D)}, DKR F H ks kvs →
    DKR F H (ks.map fun p => if p.1 = k then (p.1, v) else p) (kvs.map fun p => if p.1 = dk then (p.1, d) else p)
  | _, _, .nil => .nil
  | p :: ks, q :: kvs, .cons ⟨h1, h2⟩ t => by
    rw [List.map_cons, List.map_cons]
    refine .cons ?_ (DKR.mapv hk r t)
    by_cases e : p.1 = k
    · rw [if_pos e, if_pos ((keyD_inj h1 hk).mp e)]; exact ⟨h1, r⟩
    · rw [if_neg e, if_neg fun z => e ((keyD_inj h1 hk).mpr z)]; exact ⟨h1, h2⟩
theorem Paired.snoc {α β : Type} {R : α → β → Prop} {a : α} {b : β} (h : R a b) : ∀ {xs : List α} {ys : List β}, Paired R xs ys → Paired R (xs ++ [a]) (ys ++ [b])
  | _, _, .nil => .cons h .nil
  | _, _, .cons r t => .cons r (Paired.snoc h t)
theorem DKR.put {F : Fx} {H : Hp} {ks : List (Key × V)} {kvs : List (D × D)} (h : DKR F H ks kvs) {k : Key} {dk : D} (hk : keyD k dk) {v : V} {d : D} (r : DV F H v d) : DKR F H (putK ks k v) (dput kvs dk d) := by
  unfold putK dput
  rw [valV_any]
  rcases h.get hk with ⟨_, _, e1, e2, _⟩ | ⟨e1, e2⟩
  · rw [e1, e2]; exact h.mapv hk r
  · rw [e1, e2]; exact Paired.snoc ⟨hk, r⟩ h

mutual
theorem nested_is {pins : List (Addr × Obj)} {σ : L2.St} {H : Hp} {s : Shared} (I : Inv X pins σ H s) : ∀ (d : D) (v : V) (u : Value), lev d ≤ 60 → DV X.fx H v d → RelV v u → NestedIs s.heap (nk d) u
  | .non, _, _, _, h, r => by cases h; cases r; exact .none
  | .bl b, _, _, l, _, _ => by simp [lev] at l
  | .int i, _, _, _, h, r => by cases h; obtain ⟨t, rfl⟩ := r; exact .int i t
  | .str x, _, _, _, h, r => by cases h; obtain ⟨t, rfl⟩ := r; exact .text _ t
  | .tup ds, _, _, l, h, r => by
    cases h with
    | tup hs hr =>
      cases r
      obtain ⟨its, rv, ⟨o, ho, hc, n, hd⟩, _⟩ := I.tuple hs
      exact .tup ho hc hd (by simpa using nested_all I ds _ its (by simp only [lev] at l; omega) hr rv)
  | .ref a, _, _, l, _, _ => by simp [lev] at l
  | .cd k, _, _, l, _, _ => by simp [lev] at l
  | .scr k, _, _, l, _, _ => by simp [lev] at l
theorem nested_all {pins : List (Addr × Obj)} {σ : L2.St} {H : Hp} {s : Shared} (I : Inv X pins σ H s) : ∀ (ds : List D) (vs : List V) (us : List Value), lev.levs ds ≤ 60 → DVs X.fx H vs ds → Vals vs us → NestedAll s.heap (nk.nks ds) us
  | [], _, _, _, h, r => by cases h; cases r; exact .nil
  | d :: ds, _, _, l, h, r => by
    cases h with
    | cons h t =>
      cases r with
      | cons r1 r2 => exact .cons (nested_is I d _ _ (by simp only [lev.levs] at l; omega) h r1) (nested_all I ds _ _ (by simp only [lev.levs] at l; omega) t r2)
end
mutual
theorem nk_depth : ∀ d : D, lev d ≤ 60 → (nk d).depth = lev d
  | .non, _ => rfl
  | .bl b, l => by simp [lev] at l
  | .int i, _ => rfl
  | .str x, _ => rfl
  | .tup ds, l => congrArg (· + 1) (nk_depths ds (by simp only [lev] at l; omega))
  | .ref a, l => by simp [lev] at l
  | .cd k, l => by simp [lev] at l
  | .scr k, l => by simp [lev] at l
theorem nk_depths : ∀ ds : List D, lev.levs ds ≤ 60 → NestedKey.depthAll (nk.nks ds) = lev.levs ds
  | [], _ => rfl
  | d :: ds, l => by
    show max (NestedKey.depth (nk d)) (NestedKey.depthAll (nk.nks ds)) = _
    rw [nk_depth d (by simp only [lev.levs] at l; omega), nk_depths ds (by simp only [lev.levs] at l; omega)]; rfl
end
mutual
theorem nk_inj : ∀ d e : D, lev d ≤ 60 → lev e ≤ 60 → nk d = nk e → d = e
  | .bl b, _, l, _, _ => by simp [lev] at l
  | .ref b, _, l, _, _ => by simp [lev] at l
  | .cd b, _, l, _, _ => by simp [lev] at l
  | .scr b, _, l, _, _ => by simp [lev] at l
  | _, .bl b, _, l, _ => by simp [lev] at l
  | _, .ref b, _, l, _ => by simp [lev] at l
  | _, .cd b, _, l, _ => by simp [lev] at l
  | _, .scr b, _, l, _ => by simp [lev] at l
  | .tup ds, .tup es, l, m, h => by
    have h' : NestedKey.tup (nk.nks ds) = .tup (nk.nks es) := h
    injection h' with h'
    rw [nks_inj ds es (by simp only [lev] at l; omega) (by simp only [lev] at m; omega) h']
  | .non, .non, _, _, _ => rfl
  | .int i, .int j, _, _, h => by have h' : NestedKey.num i = .num j := h; injection h' with h'; rw [h']
  | .str i, .str j, _, _, h => by have h' : NestedKey.text (Str.ofString i) = .text (Str.ofString j) := h; injection h' with h'; rw [ofString_inj h']
  | .non, .int _, _, _, h => by cases h
  | .non, .str _, _, _, h => by cases h
  | .non, .tup _, _, _, h => by cases h
  | .int _, .non, _, _, h => by cases h
  | .int _, .str _, _, _, h => by cases h
  | .int _, .tup _, _, _, h => by cases h
  | .str _, .non, _, _, h => by cases h
  | .str _, .int _, _, _, h => by cases h
  | .str _, .tup _, _, _, h => by cases h
  | .tup _, .non, _, _, h => by cases h
  | .tup _, .int _, _, _, h => by cases h
  | .tup _, .str _, _, _, h => by cases h
theorem nks_inj : ∀ ds es : List D, lev.levs ds ≤ 60 → lev.levs es ≤ 60 → nk.nks ds = nk.nks es → ds = es
  | [], [], _, _, _ => rfl
  | [], _ :: _, _, _, h => by cases h
  | _ :: _, [], _, _, h => by cases h
  | d :: ds, e :: es, l, m, h => by
    have h' : nk d :: nk.nks ds = nk e :: nk.nks es := h
    injection h' with h1 h2
    rw [nk_inj d e (by simp only [lev.levs] at l; omega) (by simp only [lev.levs] at m; omega) h1, nks_inj ds es (by simp only [lev.levs] at l; omega) (by simp only [lev.levs] at m; omega) h2]
end
abbrev DTR (F : Fx) (H : Hp) : List (NestedKey × Addr × Value) → List (D × D) → Prop :=
  Paired fun p q => p.1 = nk q.1 ∧ lev q.1 ≤ 8 ∧ (∃ ds, q.1 = .tup ds) ∧ DV F H (.ref p.2.1) q.1 ∧ ∃ v, RelV v p.2.2 ∧ DV F H v q.2
theorem DTR.get {F : Fx} {H : Hp} {dk : D} (hk : lev dk ≤ 8) : ∀ {xs : List (NestedKey × Addr × Value)} {kvs : List (D × D)}, DTR F H xs kvs →
    (∃ p d v, atKey xs (nk dk) = some p ∧ dget kvs dk = some d ∧ RelV v p.2 ∧ DV F H v d) ∨ (atKey xs (nk dk) = none ∧ dget kvs dk = none)
  | _, _, .nil => .inr ⟨rfl, rfl⟩
  | p :: xs, q :: kvs, .cons ⟨h1, h2, h3, h4, v, h5, h6⟩ t => by
    by_cases e : q.1 = dk
    · refine .inl ⟨p.2, q.2, v, ?_, dget_pos e, h5, h6⟩
      have e' : p.1 = nk dk := by rw [h1, e]
      simp [atKey, List.find?_cons, e']
    · have e' : ¬ p.1 = nk dk := fun z => e (nk_inj _ _ (by omega) (by omega) (h1.symm.trans z))
      have r := DTR.get hk t
      rw [dget_neg e]
      have a : atKey (p :: xs) (nk dk) = atKey xs (nk dk) := by simp [atKey, List.find?_cons, e']
      rw [a]; exact r
theorem DTR.put {F : Fx} {H : Hp} {dk : D} (hk : lev dk ≤ 8) (ht : ∃ ds, dk = .tup ds) {b : Addr} (hb : DV F H (.ref b) dk) {v : V} {u : Value} {d : D} (r : RelV v u) (rd : DV F H v d) {xs : List (NestedKey × Addr × Value)} {kvs : List (D × D)} (h : DTR F H xs kvs) :
    DTR F H (storedH xs (nk dk) b u) (dput kvs dk d) := by
  have mp : ∀ {xs : List (NestedKey × Addr × Value)} {kvs : List (D × D)}, DTR F H xs kvs → DTR F H (xs.map (putAt (nk dk) u)) (kvs.map fun p => if p.1 = dk then (p.1, d) else p) := by
    intro xs kvs h
    induction h with
    | nil => exact .nil
    | @cons p q xs kvs hd t ih =>
      obtain ⟨h1, h2, h3, h4, w, h5, h6⟩ := hd
      rw [List.map_cons, List.map_cons]
      refine .cons ?_ ih
      unfold putAt
      by_cases e : q.1 = dk
      · rw [if_pos e, if_pos (by rw [h1, e])]; exact ⟨h1, h2, h3, h4, v, r, rd⟩
      · rw [if_neg e, if_neg (fun z => e (nk_inj _ _ (by omega) (by omega) (h1.symm.trans z)))]; exact ⟨h1, h2, h3, h4, w, h5, h6⟩
  unfold storedH dput
  rcases h.get hk with ⟨p, d', v', e1, e2, _, _⟩ | ⟨e1, e2⟩
  · rw [e1, e2]; exact mp h
  · rw [e1, e2]; exact Paired.snoc ⟨rfl, hk, ht, hb, v, r, rd⟩ h
/-- a dict of tuples in the real heap -/
theorem dt_real {pins : List (Addr × Obj)} {σ : L2.St} {H : Hp} {s : Shared} (I : Inv X pins σ H s) {a : Addr} {xs : List (NestedKey × Addr × Value)} {kvs : List (D × D)} (nd : (xs.map (·.1)).Nodup) (r : DTR X.fx H xs kvs) (h : Rd H a (rawD X.fx a xs)) :
    xs.length ≤ sizeLine ∧ (a == sysModules) = false ∧ s.heap.DictOfH (nestedKind X.prog X.w) a xs := by
  obtain ⟨⟨h1, h2, o, es, ep, h3, h4, h5, h6⟩, _, _⟩ := h.ok I.hok
  refine ⟨h1, h2, o, es, ep, h3, h4, h5, h6, ?_, nd⟩
  have all : ∀ {xs : List (NestedKey × Addr × Value)} {kvs : List (D × D)}, DTR X.fx H xs kvs → ∀ x ∈ xs, (nestedKind X.prog X.w).is s.heap x.1 x.2.1 := by
    intro xs kvs h
    induction h with
    | nil => intro x hx; cases hx
    | @cons p q xs kvs hd t ih =>
      obtain ⟨h1, h2, h3, h4, w, h5, h6⟩ := hd
      intro x hx
      rcases List.mem_cons.mp hx with rfl | hx
      · refine ⟨?_, ?_⟩
        · rw [h1]; exact nested_is I _ _ _ (by omega) h4 rfl
        · rw [h1, nk_depth _ (by omega)]; exact h2
      · exact ih x hx
  exact all r
theorem dt_key {pins : List (Addr × Obj)} {σ : L2.St} {H : Hp} {s : Shared} (I : Inv X pins σ H s) {b : Addr} {d : D} (l : lev d ≤ 8) (h : DV X.fx H (.ref b) d) : (nestedKind X.prog X.w).is s.heap (nk d) b :=
  ⟨nested_is I _ _ _ (by omega) h rfl, by rw [nk_depth _ (by omega)]; exact l⟩
end SD

set_option Elab.async false
set_option linter.all false
set_option maxRecDepth 100000
namespace SD
open PySem PySem.Spec PyProof.Rows L2
variable {X : Cx}

/-! ## 7. operators by data -/
def liftR (F : Fx) (r : R22) : R2 := fun x y H Q => ∃ dx dy G Q2, AbsG F H G ∧ DV F H x dx ∧ DV F H y dy ∧ r dx dy G Q2 ∧ Co F H G Q2 Q
def OpR2 (X : Cx) (f : Value → Value → Sem Value) (r : R22) : Prop := OpR X f (liftR X.fx r)
theorem rel_lift {F : Fx} {r : R22} : RelOp F (liftR F r) r := fun x y H dx dy G Q2 Q A rx ry q c => ⟨dx, dy, G, Q2, A, rx, ry, q, c⟩
theorem OpR2.of {f : Value → Value → Sem Value} {R : R2} {r : R22} (h : OpR X f R) (i : RelOp X.fx R r) : OpR2 X f r := fun pins s σ H x y v u Q I rx ry ⟨dx, dy, G, Q2, A, hx, hy, q, c⟩ =>
  h pins s σ H x y v u Q I rx ry (i x y H dx dy G Q2 Q A hx hy q c)
theorem OpR2.imp {f : Value → Value → Sem Value} {r r' : R22} (h : OpR2 X f r) (i : ∀ x y G Q, r' x y G Q → r x y G Q) : OpR2 X f r' := fun pins s σ H x y v u Q I rx ry ⟨dx, dy, G, Q2, A, hx, hy, q, c⟩ =>
  h pins s σ H x y v u Q I rx ry ⟨dx, dy, G, Q2, A, hx, hy, i _ _ _ _ q, c⟩
theorem OpR2.or {f : Value → Value → Sem Value} {r r1 r2 : R22} (h1 : OpR2 X f r1) (h2 : OpR2 X f r2) (i : ∀ x y G Q, r x y G Q → r1 x y G Q ∨ r2 x y G Q) : OpR2 X f r := fun pins s σ H x y v u Q I rx ry ⟨dx, dy, G, Q2, A, hx, hy, q, c⟩ => by
  rcases i _ _ _ _ q with q | q
  · exact h1 pins s σ H x y v u Q I rx ry ⟨dx, dy, G, Q2, A, hx, hy, q, c⟩
  · exact h2 pins s σ H x y v u Q I rx ry ⟨dx, dy, G, Q2, A, hx, hy, q, c⟩
theorem pd_bin {op : Operator} {a b : Expr} {ta tb : TE2} {r : R22} {pos : Pos} (ho : OpR2 X (binaryOp op) r) (ha : PE2 X a ta) (hb : PE2 X b tb) : PE2 X (.BinOp a op b pos) (dOp r ta tb) := pd_op ho rel_lift ha hb
theorem pd_cmp2 {op : CmpOp} {a b : Expr} {ta tb : TE2} {r : R22} {pos : Pos} (ho : OpR2 X (compareOp op) r) (ha : PE2 X a ta) (hb : PE2 X b tb) (hm : behindInMarks op b = false := by first | exact nobehind _ (by decide) (by decide) | rfl) : PE2 X (.Compare a [op] [b] pos) (dOp r ta tb) :=
  pd_cmp ho rel_lift hm ha hb

def oAddI : R22 := oI (fun _ _ => True) fun i j => .int (i + j)
def oAddT : R22 := fun x y G Q => match x, y with
  | .tup a, .tup b => a.length + b.length ≤ sizeLine ∧ Q (.tup (a ++ b)) G
  | _, _ => False
def oAddL : R22 := fun x y G Q => match x, y with
  | .ref a, .ref b => match G a, G b with
    | some (.lst false xs), some (.lst false ys) => xs.length + ys.length ≤ sizeLine ∧ ∀ p, G p = none → Q (.ref p) (gput G p (.lst false (xs ++ ys)))
    | _, _ => False
  | _, _ => False
def oAdd : R22 := fun x y G Q => match x, y with
  | .int i, .int j => Q (.int (i + j)) G
  | .tup a, .tup b => a.length + b.length ≤ sizeLine ∧ Q (.tup (a ++ b)) G
  | .ref a, .ref b => match G a, G b with
    | some (.lst false xs), some (.lst false ys) => xs.length + ys.length ≤ sizeLine ∧ ∀ p, G p = none → Q (.ref p) (gput G p (.lst false (xs ++ ys)))
    | _, _ => False
  | _, _ => False
theorem rel_addT {F : Fx} : RelOp F (rCatA F.K) oAddT := by
  intro x y H dx dy G Q2 Q A rx ry q c
  cases rx <;> cases ry <;> first
    | exact q.elim
    | (rename_i a vs ds hs hr b ws es hs' hr'
       obtain ⟨hl, q⟩ := q
       refine ⟨a, b, vs, ws, rfl, rfl, hs, hs', by rw [hr.length, hr'.length]; exact hl, fun e => ?_, fun _ e => ?_, fun _ _ p hp => ?_⟩
       · subst e; cases hr
         exact c _ H _ G .refl A (.tup hs' hr') (by simpa using q)
       · subst e; cases hr'
         exact c _ H _ G .refl A (.tup hs hr) (by simpa using q)
       · exact c _ _ _ G (.lay hp) (A.lay hp) (.tup (SqT.of upd_same) ((hr.append hr').keep A (.lay hp))) q)
theorem AbsG.lstF {F : Fx} {H : Hp} {G : Gp} (A : AbsG F H G) {a : Addr} {ds : List D} (e : G a = some (.lst false ds)) : ∃ vs, DVs F H vs ds ∧ H a = some (.lst vs) :=
  let ⟨vs, r, h⟩ := A a _ e; ⟨vs, r, h⟩
theorem rel_addL {F : Fx} : RelOp F rCat oAddL := by
  intro x y H dx dy G Q2 Q A rx ry q c
  cases rx <;> cases ry <;> first
    | exact q.elim
    | (rename_i a b
       unfold oAddL at q
       dsimp only at q
       split at q
       · rename_i xs ys h1 h2
         obtain ⟨vs, r1, e1⟩ := A.lstF h1
         obtain ⟨ws, r2, e2⟩ := A.lstF h2
         refine ⟨a, b, vs, ws, rfl, rfl, e1, e2, by rw [r1.length, r2.length]; exact q.1, fun p hp => ?_⟩
         exact c _ _ _ _ (.new hp) (A.new hp (show MOk _ _ _ (.lst false _) from ⟨_, (r1.append r2).keep A (.lay hp), upd_same⟩)) (.ref p) (q.2 p (A.free hp))
       · exact q.elim)
theorem op_add2 : OpR2 X (binaryOp .Add) oAdd :=
  (OpR2.of op_add (rel_I0 (g2 := fun i j => .int (i + j)) fun _ _ _ => .int _)).or ((OpR2.of op_catA rel_addT).or (OpR2.of op_cat rel_addL) (fun x y G Q q => q)) (r2 := fun x y G Q => oAddT x y G Q ∨ oAddL x y G Q) (fun x y G Q q => by
    unfold oAdd at q
    split at q
    · exact .inl ⟨trivial, q⟩
    · exact .inr (.inl q)
    · exact .inr (.inr q)
    · exact q.elim)
def oSub : R22 := oI (fun _ _ => True) fun i j => .int (i - j)
theorem op_sub2 : OpR2 X (binaryOp .Sub) oSub := OpR2.of op_sub (rel_I0 fun _ _ _ => .int _)
def oDiv : R22 := oI CDivW fun i j => .int (i / j)
theorem op_div2 : OpR2 X (binaryOp .FloorDiv) oDiv := OpR2.of op_fdivW (rel_I fun _ _ _ => .int _)
def oMod : R22 := oI (fun _ j => j ≠ 0) fun i j => .int (i.fmod j)
theorem op_mod2 : OpR2 X (binaryOp .Mod) oMod := OpR2.of op_modN (rel_I fun _ _ _ => .int _)
def oLt : R22 := oI (fun _ _ => True) fun i j => .bl (decide (i < j))
theorem op_lt2 : OpR2 X (compareOp .Lt) oLt := OpR2.of op_lt (rel_I0 fun _ _ _ => .bl _)
def oLe : R22 := oI (fun _ _ => True) fun i j => .bl (decide (i ≤ j))
theorem op_le2 : OpR2 X (compareOp .LtE) oLe := OpR2.of op_le (rel_I0 fun _ _ _ => .bl _)
def oGt : R22 := oI (fun _ _ => True) fun i j => .bl (decide (j < i))
theorem op_gt2 : OpR2 X (compareOp .Gt) oGt := OpR2.of op_gt (rel_I0 fun _ _ _ => .bl _)
def oGe : R22 := oI (fun _ _ => True) fun i j => .bl (decide (j ≤ i))
theorem op_ge2 : OpR2 X (compareOp .GtE) oGe := OpR2.of op_ge (rel_I0 fun _ _ _ => .bl _)
theorem op_eq2 (hu : X.A.units + 64 < cLine) : OpR2 X (compareOp .Eq) oEq := OpR2.of (op_eqD hu) rel_eq
theorem op_ne2 (hu : X.A.units + 64 < cLine) : OpR2 X (compareOp .NotEq) oNe := OpR2.of (op_neD hu) rel_ne
end SD

set_option Elab.async false
set_option linter.all false
set_option maxRecDepth 100000
namespace SD
open PySem PySem.Spec PyProof.Rows L2
variable {X : Cx}
open Classical in
noncomputable def inB (G : Gp) (x y : D) : Option Bool := match y with
  | .tup ds => if lev x ≤ 60 ∧ levs ds ≤ 59 then some (decide (x ∈ ds)) else none
  | .ref a => match G a with
    | some (.lst _ ds) => if lev x ≤ 60 ∧ levs ds ≤ 59 then some (decide (x ∈ ds)) else none
    | some (.dic _ t kvs) => if KeyC t x then some (dget kvs x).isSome else none
    | _ => none
  | .cd kvs => if KeyC false x then some (dget kvs x).isSome else none
  | _ => none
noncomputable def oIn : R22 := fun x y G Q => match inB G x y with
  | some b => Q (.bl b) G
  | none => False
noncomputable def oNotIn : R22 := fun x y G Q => match inB G x y with
  | some b => Q (.bl (!b)) G
  | none => False
theorem any_eqv {x : D} (l : lev x ≤ 60) : ∀ ds : List D, lev.levs ds ≤ 60 → ((toPy.toPys ds).any fun z => PyData.eqv z (toPy x)) = decide (x ∈ ds)
  | [], _ => by simp [toPy.toPys]
  | d :: ds, h => by
    have ih := any_eqv l ds (by simp only [lev.levs] at h; omega)
    show (PyData.eqv (toPy d) (toPy x) || (toPy.toPys ds).any fun z => PyData.eqv z (toPy x)) = _
    rw [ih, toPy_eqv d x (by simp only [lev.levs] at h; omega) l]
    by_cases e : d = x
    · subst e; simp
    · have e' : ¬ x = d := fun z => e z.symm
      simp [e, e']
theorem paired_isSome {o : Option V} {d : Option D} {F : Fx} {H : Hp} (h : (∃ v x, o = some v ∧ d = some x ∧ DV F H v x) ∨ (o = none ∧ d = none)) : o.isSome = d.isSome := by
  rcases h with ⟨_, _, rfl, rfl, _⟩ | ⟨rfl, rfl⟩ <;> rfl
/-- a dict asked for a key -/
theorem dic_in {pins : List (Addr × Obj)} {σ : L2.St} {H : Hp} {s : Shared} {G : Gp} (hu : X.A.units + 64 < cLine) (I : Inv X pins σ H s) (A : AbsG X.fx H G) {a : Addr} {l t : Bool} {kvs : List (D × D)} (g : G a = some (.dic l t kvs)) {x : V} {u : Value} {d : D}
    (rx : RelV x u) (hx : DV X.fx H x d) (kc : KeyC t d) {E : Value → Shared → Prop} {Q : Value → Shared → Prop} :
    ((∀ s', Inv X pins σ H s' → Q (.bool (dget kvs d).isSome) s') → wpAny (model X.prog X.w) X.A (compareOp .In u (.ref a)) Q E s) ∧
    ((∀ s', Inv X pins σ H s' → Q (.bool (!(dget kvs d).isSome)) s') → wpAny (model X.prog X.w) X.A (compareOp .NotIn u (.ref a)) Q E s) := by
  have hm := A a _ g
  cases t with
  | false =>
    obtain ⟨_, ⟨ks, rfl, r⟩, hl⟩ := hm
    obtain ⟨k, hk⟩ := keyD_of kc
    have e := paired_isSome (DKR.get r hk)
    have ev := keyD_rel hk hx
    have dg : DGet H a x (valV ks k) := .inl ⟨ks, k, hl.rd, ev, rfl⟩
    exact ⟨fun h => d_in (by omega) I dg rx fun s' I' => by rw [e]; exact h s' I', fun h => d_notIn (by omega) I dg rx fun s' I' => by rw [e]; exact h s' I'⟩
  | true =>
    obtain ⟨_, ⟨xs, rfl, nd, r⟩, hl⟩ := hm
    obtain ⟨hz, hs, dd⟩ := dt_real I nd r hl.rd
    cases d with
    | tup ds =>
      have kc' : lev (.tup ds) ≤ 8 := kc
      cases hx with
      | @tup b vs _ hb hvs =>
        cases rx
        have key := dt_key I (b := b) kc' (.tup hb hvs)
        have e : (atKey xs (nk (.tup ds))).isSome = (dget kvs (.tup ds)).isSome := by
          rcases DTR.get kc' r with ⟨p, d', v', e1, e2, _⟩ | ⟨e1, e2⟩ <;> rw [e1, e2] <;> rfl
        have rm : (nestedKind X.prog X.w).room X.A.in1 := by show X.A.units + 1 + 8 < cLine; omega
        exact ⟨fun h => wpAny_in_heap rm key hs dd (by rw [e]; exact h _ (I.tok _)), fun h => wpAny_notIn_heap rm key hs dd (by rw [e]; exact h _ (I.tok _))⟩
    | _ => exact kc.elim
theorem cd_in {pins : List (Addr × Obj)} {σ : L2.St} {H : Hp} {s : Shared} (I : Inv X pins σ H s) {a : Addr} {kvs : List (D × D)} (g : CdOk X.fx a kvs) {x : V} {u : Value} {d : D}
    (rx : RelV x u) (hx : DV X.fx H x d) (kc : KeyC false d) {E : Value → Shared → Prop} {Q : Value → Shared → Prop} :
    ((∀ s', Inv X pins σ H s' → Q (.bool (dget kvs d).isSome) s') → wpAny (model X.prog X.w) X.A (compareOp .In u (.ref a)) Q E s) ∧
    ((∀ s', Inv X pins σ H s' → Q (.bool (!(dget kvs d).isSome)) s') → wpAny (model X.prog X.w) X.A (compareOp .NotIn u (.ref a)) Q E s) := by
  obtain ⟨hz, hs, ks, r, hd⟩ := g
  have dd := hd _ I.kIn
  obtain ⟨k, hk⟩ := keyD_of kc
  have ev := keyD_rel hk hx
  subst ev
  have q := tab_get (R := keyD) (S := fun (v : Value) (d : D) => ∃ x : String, d = .str x ∧ RelV (.str (Str.ofString x)) v) (fun a b => keyD_inj a b) hk r
  have e : (valueAt ks k).isSome = (dget kvs d).isSome := by
    unfold valueAt dget
    cases e1 : ks.find? (fun p => decide (p.1 = k)) <;> cases e2 : kvs.find? (fun p => decide (p.1 = d)) <;> rw [e1, e2] at q <;> first | exact q.elim | rfl
  exact ⟨fun h => wpAny_in_of (kV_is rx) hs dd.mapOf (by rw [e]; exact h _ (I.tok _)), fun h => wpAny_notIn_of (kV_is rx) hs dd.mapOf (by rw [e]; exact h _ (I.tok _))⟩
theorem op_in2 (hu : X.A.units + 65 < cLine) : OpR2 X (compareOp .In) oIn ∧ OpR2 X (compareOp .NotIn) oNotIn := by
  have key : ∀ (pins : List (Addr × Obj)) (s : Shared) (σ : L2.St) (H : Hp) (x y : V) (v u : Value) (dx dy : D) (G : Gp) (b : Bool), Inv X pins σ H s → RelV x v → RelV y u → AbsG X.fx H G → DV X.fx H x dx → DV X.fx H y dy → inB G dx dy = some b →
      ∀ (E : Value → Shared → Prop) (Q : Value → Shared → Prop), ((∀ s', Inv X pins σ H s' → Q (.bool b) s') → wpAny (model X.prog X.w) X.A (compareOp .In v u) Q E s) ∧ ((∀ s', Inv X pins σ H s' → Q (.bool (!b)) s') → wpAny (model X.prog X.w) X.A (compareOp .NotIn v u) Q E s) := by
    intro pins s σ H x y v u dx dy G b I rx ry A hx hy e E Q
    unfold inB at e
    split at e
    · split at e
      · rename_i ds hl
        have e' := Option.some.inj e
        subst e'
        cases hy with
        | tup hs hr =>
          have l2 : lev.levs ds ≤ 60 := Nat.le_trans hl.2 (by decide)
          obtain ⟨as, r1⟩ := Dp.reads I _ x v (toPy_dp _ _ hl.1 hx) rx
          obtain ⟨bs, r2⟩ := Dp.reads I (.tuple (toPys ds)) _ u (.tup hs (toPy_dps ds _ l2 hr)) ry
          obtain ⟨c1, c2⟩ := toPy_oks ds l2
          have sd := toPy_shaped hl.1
          refine ⟨fun h => SeqAt.in_tuple_reads r2 r1 c1 (SeqAt.canLay_of_shaped sd) (room_in_shaped sd hu) ?_, fun h => SeqAt.notIn_tuple_reads r2 r1 c1 (SeqAt.canLay_of_shaped sd) (room_in_shaped sd hu) ?_⟩
          · rw [any_eqv hl.1 ds l2]; exact h _ I
          · rw [any_eqv hl.1 ds l2]; exact h _ I
      · cases e
    · rename_i a
      split at e
      · split at e
        · rename_i l ds hg hl
          have e' := Option.some.inj e
          subst e'
          cases hy
          obtain ⟨vs, hr, hs⟩ := A.lst hg
          have l2 : lev.levs ds ≤ 60 := Nat.le_trans hl.2 (by decide)
          obtain ⟨as, r1⟩ := Dp.reads I _ x v (toPy_dp _ _ hl.1 hx) rx
          obtain ⟨bs, r2⟩ := Dp.reads I (.list (toPys ds)) _ u (.lst hs (toPy_dps ds _ l2 hr)) ry
          obtain ⟨c1, c2⟩ := toPy_oks ds l2
          have sd := toPy_shaped hl.1
          refine ⟨fun h => SeqAt.in_list_reads r2 r1 c1 (SeqAt.canLay_of_shaped sd) (room_in_shaped sd hu) ?_, fun h => SeqAt.notIn_list_reads r2 r1 c1 (SeqAt.canLay_of_shaped sd) (room_in_shaped sd hu) ?_⟩
          · rw [any_eqv hl.1 ds l2]; exact h _ I
          · rw [any_eqv hl.1 ds l2]; exact h _ I
        · cases e
      · split at e
        · rename_i l t kvs hg kc
          have e' := Option.some.inj e
          subst e'
          cases hy
          cases ry
          exact dic_in (by omega) I A hg rx hx kc
        · cases e
      · cases e
    · split at e
      · rename_i kvs kc
        have e' := Option.some.inj e
        subst e'
        cases hy with
        | cd g => cases ry; exact cd_in I g rx hx kc
      · cases e
    · cases e
  refine ⟨fun pins s σ H x y v u Q I rx ry ⟨dx, dy, G, Q2, A, hx, hy, q, c⟩ => ?_, fun pins s σ H x y v u Q I rx ry ⟨dx, dy, G, Q2, A, hx, hy, q, c⟩ => ?_⟩
  · unfold oIn at q
    cases e : inB G dx dy with
    | none => rw [e] at q; exact q.elim
    | some b =>
      rw [e] at q
      exact (key pins s σ H x y v u dx dy G b I rx ry A hx hy e _ _).1 fun s' I' => ⟨.bl b, H, I', rfl, c _ H _ G .refl A (.bl b) q⟩
  · unfold oNotIn at q
    cases e : inB G dx dy with
    | none => rw [e] at q; exact q.elim
    | some b =>
      rw [e] at q
      exact (key pins s σ H x y v u dx dy G b I rx ry A hx hy e _ _).2 fun s' I' => ⟨.bl (!b), H, I', rfl, c _ H _ G .refl A (.bl _) q⟩

/-! ### subscripts -/
noncomputable def ixB (G : Gp) (x y : D) : Option D := match x with
  | .tup ds => match y with
    | .int i => atI ds i
    | _ => none
  | .ref a => match G a with
    | some (.lst _ ds) => match y with
      | .int i => atI ds i
      | _ => none
    | some (.dic _ _ kvs) => dget kvs y
    | _ => none
  | .cd kvs => dget kvs y
  | _ => none
/-- what a key of a subscript must be -/
def ixC (G : Gp) (x y : D) : Prop := match x with
  | .ref a => match G a with
    | some (.dic _ t _) => KeyC t y
    | _ => True
  | .cd _ => KeyC false y
  | _ => True
noncomputable def oIx : R22 := fun x y G Q => ixC G x y ∧ match ixB G x y with
  | some d => Q d G
  | none => False
theorem atI_paired {F : Fx} {H : Hp} {vs : List V} {ds : List D} (r : DVs F H vs ds) {i : Int} {d : D} (e : atI ds i = some d) : ∃ v, atI vs i = some v ∧ DV F H v d := by
  unfold atI at *
  rw [r.length]
  cases h : ixN ds.length i with
  | none => rw [h] at e; cases e
  | some j =>
    rw [h] at e
    obtain ⟨v, h1, h2⟩ := r.get (show ds[j]? = some d from e)
    exact ⟨v, h1, h2⟩
theorem dic_val {pins : List (Addr × Obj)} {σ : L2.St} {H : Hp} {s : Shared} {G : Gp} (hu : X.A.units + 64 < cLine) (I : Inv X pins σ H s) (A : AbsG X.fx H G) {a : Addr} {l t : Bool} {kvs : List (D × D)} (g : G a = some (.dic l t kvs)) {x : V} {u : Value} {k d : D}
    (rx : RelV x u) (hx : DV X.fx H x k) (kc : KeyC t k) (e : dget kvs k = some d) :
    ∃ w v, RelV v w ∧ DV X.fx H v d ∧ s.TypeIs (.ref a) "dict" ∧ ∀ (E : Value → Shared → Prop) (Q : Value → Shared → Prop), (∀ s', Inv X pins σ H s' → Q w s') → wpAny (model X.prog X.w) X.A (getItem (.ref a) u) Q E s := by
  have hm := A a _ g
  cases t with
  | false =>
    obtain ⟨_, ⟨ks, rfl, r⟩, hl⟩ := hm
    obtain ⟨kk, hk⟩ := keyD_of kc
    have ev := keyD_rel hk hx
    subst ev
    rcases DKR.get r hk with ⟨v, d', e1, e2, rd⟩ | ⟨_, e2⟩
    · rw [e] at e2; cases e2
      obtain ⟨z, hd, vs, rel, dd⟩ := dk_rd I.hok hl.rd
      obtain ⟨w', hw, rw'⟩ := RelO.some_of (v := v) (o := valueAt vs kk) (by rw [← e1]; exact rel.val kk)
      exact ⟨w', v, rw', rd, dd.typeIs, fun E Q h => wpAny_getItem_of (kV_is rx) dd.mapOf hw (h _ (I.tok _))⟩
    · rw [e] at e2; cases e2
  | true =>
    obtain ⟨_, ⟨xs, rfl, nd, r⟩, hl⟩ := hm
    obtain ⟨hz, hs, dd⟩ := dt_real I nd r hl.rd
    cases k with
    | tup ds =>
      have kc' : lev (.tup ds) ≤ 8 := kc
      cases hx with
      | @tup b vs _ hb hvs =>
        cases rx
        have key := dt_key I (b := b) kc' (.tup hb hvs)
        rcases DTR.get kc' r with ⟨p, d', v', e1, e2, r1, r2⟩ | ⟨e1, e2⟩
        · rw [e] at e2; cases e2
          exact ⟨p.2, v', r1, r2, dd.typeIs, fun E Q h => wpAny_getItem_heap (by show X.A.units + 1 + 8 < cLine; omega) key dd e1 (h _ (I.tok _))⟩
        · rw [e] at e2; cases e2
    | _ => exact kc.elim
theorem cd_val {pins : List (Addr × Obj)} {σ : L2.St} {H : Hp} {s : Shared} (I : Inv X pins σ H s) {a : Addr} {kvs : List (D × D)} (g : CdOk X.fx a kvs) {x : V} {u : Value} {k d : D}
    (rx : RelV x u) (hx : DV X.fx H x k) (kc : KeyC false k) (e : dget kvs k = some d) :
    ∃ w v, RelV v w ∧ DV X.fx H v d ∧ s.TypeIs (.ref a) "dict" ∧ ∀ (E : Value → Shared → Prop) (Q : Value → Shared → Prop), (∀ s', Inv X pins σ H s' → Q w s') → wpAny (model X.prog X.w) X.A (getItem (.ref a) u) Q E s := by
  obtain ⟨hz, hs, ks, r, hd⟩ := g
  have dd := hd _ I.kIn
  obtain ⟨kk, hk⟩ := keyD_of kc
  have ev := keyD_rel hk hx
  subst ev
  have q := tab_get (R := keyD) (S := fun (v : Value) (d : D) => ∃ x : String, d = .str x ∧ RelV (.str (Str.ofString x)) v) (fun a b => keyD_inj a b) hk r
  unfold dget at e
  cases e1 : ks.find? (fun p => decide (p.1 = kk)) with
  | none =>
    cases e2 : kvs.find? (fun p => decide (p.1 = k)) with
    | none => rw [e2] at e; cases e
    | some b => rw [e1, e2] at q; exact q.elim
  | some p =>
    cases e2 : kvs.find? (fun p => decide (p.1 = k)) with
    | none => rw [e2] at e; cases e
    | some b =>
      rw [e1, e2] at q
      rw [e2] at e
      have e' : b.2 = d := Option.some.inj e
      obtain ⟨_, z, h1, h2⟩ := q
      refine ⟨p.2, .str (Str.ofString z), h2, ?_, dd.typeIs, fun E Q h => wpAny_getItem_of (kV_is rx) dd.mapOf (v := p.2) ?_ (h _ (I.tok _))⟩
      · rw [← e', h1]; exact .str z
      · show valueAt ks kk = some p.2
        unfold valueAt; rw [e1]; rfl
theorem ix_all (hu : X.A.units + 64 < cLine) : IxR X (liftR X.fx oIx) := by
  intro value slice pins s σ H x y v u Q I rx ry ⟨dx, dy, G, Q2, A, hx, hy, ⟨hc, q⟩, c⟩ hs
  unfold ixC at hc
  unfold ixB at q
  cases hx with
  | @tup b vs ds hb hvs =>
    dsimp only at q
    cases hy with
    | int i =>
      dsimp only at q
      split at q
      · rename_i d e
        obtain ⟨w, e1, r1⟩ := atI_paired hvs e
        exact ix_tup value slice pins s σ H _ _ v u Q I rx ry ⟨b, vs, i, w, rfl, rfl, hb, e1, c _ H _ G .refl A r1 q⟩ hs
      · exact q.elim
    | _ => exact q.elim
  | ref a =>
    cases g : G a with
    | none => dsimp only at q; rw [g] at q; exact q.elim
    | some m =>
      dsimp only at q hc
      rw [g] at q hc
      cases m with
      | lst l ds =>
        dsimp only at q
        cases hy with
        | int i =>
          dsimp only at q
          split at q
          · rename_i d e
            obtain ⟨vs, hvs, hs'⟩ := A.lst g
            obtain ⟨w, e1, r1⟩ := atI_paired hvs e
            exact ix_list value slice pins s σ H _ _ v u Q I rx ry ⟨a, vs, i, w, rfl, rfl, hs', e1, c _ H _ G .refl A r1 q⟩ hs
          · exact q.elim
        | _ => exact q.elim
      | dic l t kvs =>
        dsimp only at q hc
        split at q
        · rename_i d e
          cases rx
          obtain ⟨w, vv, r1, r2, ty, h⟩ := dic_val hu I A g ry hy hc e
          exact subscriptTail_builtinR (x := w) ty PySem.F.slot_dict_getitem.lookup (h _ _ fun s' I' => ⟨rfl, vv, H, I', r1, c _ H _ G .refl A r2 q⟩) hs
        · exact q.elim
      | tpl ds => exact q.elim
  | cd g =>
    dsimp only at q hc
    split at q
    · rename_i d e
      cases rx
      obtain ⟨w, vv, r1, r2, ty, h⟩ := cd_val I g ry hy hc e
      exact subscriptTail_builtinR (x := w) ty PySem.F.slot_dict_getitem.lookup (h _ _ fun s' I' => ⟨rfl, vv, H, I', r1, c _ H _ G .refl A r2 q⟩) hs
    · exact q.elim
  | _ => exact q.elim
theorem pd_ix (hu : X.A.units + 64 < cLine) {a b : Expr} {ta tb : TE2} {pos : Pos} (ha : PE2 X a ta) (hb : PE2 X b tb) (hs : PlainIx b := by exact fun _ _ => rfl) : PE2 X (.Subscript a b pos) (dOp oIx ta tb) :=
  (pe_ix (ix_all hu) ha hb hs).imp fun _ _ _ q => op_up rel_lift q
end SD

set_option Elab.async false
set_option linter.all false
set_option maxRecDepth 100000
namespace SD
open PySem PySem.Spec PyProof.Rows L2
variable {X : Cx}

/-! ## 8. calls -/
/-- a call by data: the arguments, the heap, what follows -/
abbrev Sem2 := List D → Gp → VK2 → Prop
def liftC (F : Fx) (r : Sem2) : List V → Hp → VK → Prop := fun xs H Q => ∃ ds G Q2, AbsG F H G ∧ DVs F H xs ds ∧ r ds G Q2 ∧ Co F H G Q2 Q
def CallR2 (X : Cx) (f : Value) (r : Sem2) : Prop := CallR X f (liftC X.fx r)
def dCall (r : Sem2) (t : TA2) : TE2 := fun δ G Q => t δ G fun ds G1 => r ds G1 Q
theorem call_up {F : Fx} {n : Nat} {r : Sem2} {t : TA2} {σ : L2.St} {H : Hp} {Q : VK} (q : up F (dCall r t) σ H Q) : tCB (liftC F r) (upA F n t) σ H Q := by
  obtain ⟨δ, G, Q2, A, t, c⟩ := q
  exact ⟨δ, G, _, A, t, fun vs H1 ds G1 k1 A1 r1 _ q1 => ⟨ds, G1, Q2, A1, r1, q1, c.trans k1⟩⟩
theorem pd_callB {x : Str} {id : String} {r : Sem2} {e : Expr} {es : List Expr} {n : Nat} {t : TA2} {p pos : Pos} (hc : CallR2 X (.builtin id) r) (hg : Gl X x) (hm : X.mg x = none) (hv : bootBuiltins x = some (.builtin id)) (ha : PA2 X (e :: es) n t) (hn : x ≠ "__name__" := by decide) (hdb : (x == ("__debug__" : Str)) = false := by decide)
    (he : starEach (e :: es) X.env = (false, eval e X.env) :: starEach es X.env := by rfl) (hpl : (backTo pos (starEach es X.env)).any (·.1) = false := by rfl) : PE2 X (.Call (.Name x p) (e :: es) [] pos) (dCall r t) :=
  (pe_callB hc hg hm hv ha hn hdb he hpl).imp fun _ _ _ q => call_up q
theorem pd_callTy {x : Str} {T : String} {r : Sem2} {e : Expr} {es : List Expr} {n : Nat} {t : TA2} {p pos : Pos} (hc : CallR2 X (.type T) r) (hg : Gl X x) (hm : X.mg x = none) (hv : bootBuiltins x = some (.type T)) (ha : PA2 X (e :: es) n t) (hn : x ≠ "__name__" := by decide) (hdb : (x == ("__debug__" : Str)) = false := by decide)
    (he : starEach (e :: es) X.env = (false, eval e X.env) :: starEach es X.env := by rfl) (hpl : (backTo pos (starEach es X.env)).any (·.1) = false := by rfl) : PE2 X (.Call (.Name x p) (e :: es) [] pos) (dCall r t) :=
  (pe_callTy hc hg hm hv ha hn hdb he hpl).imp fun _ _ _ q => call_up q
/-- a built-in of one sequence, read at once -/
theorem q_call {F : Fx} {t : TA2} {σ : L2.St} {H : Hp} {R : List V → Hp → VK → Prop} {Q : VK} (h : upQ F t σ H fun x H1 => R [x] H1 Q) : tCB R (tCons (upQ F t) tNil) σ H Q := h

/-- len(x) of a tuple, a list, a dict -/
def lenB (G : Gp) (d : D) : Option Nat := match d with
  | .tup ds => some ds.length
  | .ref a => match G a with
    | some (.lst _ ds) => some ds.length
    | some (.dic _ _ kvs) => some kvs.length
    | _ => none
  | _ => none
def rLen : Sem2 := fun ds G Q => match ds with
  | [d] => match lenB G d with
    | some n => Q (.int n) G
    | none => False
  | _ => False
theorem Paired.len {α β : Type} {R : α → β → Prop} {xs : List α} {ys : List β} (h : Paired R xs ys) : xs.length = ys.length := Paired.length h
theorem call_len2 : CallR2 X (.builtin "len") rLen := by
  intro pins s σ H xs us Q I rs ⟨ds, G, Q2, A, rd, q, c⟩
  unfold rLen at q
  cases rd with
  | nil => exact q.elim
  | cons r t =>
    cases t with
    | cons _ _ => exact q.elim
    | nil =>
      dsimp only at q
      split at q
      · rename_i n e
        unfold lenB at e
        cases r with
        | tup hs hr =>
          cases e
          exact call_len_seq pins s σ H _ us Q I rs ⟨_, _, rfl, .inr hs, by rw [hr.length]; exact c _ H _ G .refl A (.int _) q⟩
        | ref a =>
          dsimp only at e
          cases g : G a with
          | none => rw [g] at e; cases e
          | some m =>
            rw [g] at e
            cases m with
            | lst l ds =>
              cases e
              obtain ⟨vs, hr, hs⟩ := A.lst g
              exact call_len_seq pins s σ H _ us Q I rs ⟨_, _, rfl, .inl hs, by rw [hr.length]; exact c _ H _ G .refl A (.int _) q⟩
            | dic l t kvs =>
              cases e
              rw [Vals.ref1 rs]
              have hm := A a _ g
              have hsl := sizeLine_eq
              cases t with
              | false =>
                obtain ⟨_, ⟨ks, rfl, r⟩, hl⟩ := hm
                exact d_len I hl.rd fun t s' I' => ⟨.int _, H, I', ⟨t, by rw [Paired.len r]⟩, c _ H _ G .refl A (.int _) q⟩
              | true =>
                obtain ⟨_, ⟨xs, rfl, nd, r⟩, hl⟩ := hm
                obtain ⟨hz, hs, dd⟩ := dt_real I nd r hl.rd
                have hk : s.heap.DictKeyed (nestedKind X.prog X.w) a (pairsH xs) := ⟨xs, dd, rfl⟩
                have hn : (pairsH xs).length = kvs.length := by rw [pairsH_length, Paired.len r]
                refine PyProof.Rows.call_len_slot (n := (pairsH xs).length) hk.typeIs PySem.F.slot_dict_len (fun Q' hq => len_keyed hs hk hq) (by omega) (by rw [pairsH_length]; omega) ?_
                exact ⟨.int _, H, I.tok _, ⟨_, by rw [hn]⟩, c _ H _ G .refl A (.int _) q⟩
            | tpl ds => cases e
        | _ => cases e
      · exact q.elim
def dLenQ (t : TA2) : TE2 := fun δ G Q => t δ G fun ds G1 => Q (.int ds.length) G1
section
variable {x : Str} {e : Expr} {t : TA2} {p pos : Pos}
theorem pd_lenQ (hg : Gl X "len") (hm : X.mg "len" = none) (ha : PQ2 X e t) (he : starEach [e] X.env = (false, eval e X.env) :: starEach [] X.env := by rfl) : PE2 X (.Call (.Name "len" p) [e] [] pos) (dLenQ t) :=
  (pe_callB call_len_seq hg hm PySem.boot_len (pa_cons ha pa_nil he) (by decide) (by decide) he).imp fun σ H Q ⟨δ, G, Q2, A, t, c⟩ =>
    ⟨δ, G, _, A, t, fun p vs H' ds G' k A' hs r q => ⟨p, vs, rfl, hs, by rw [r.length]; exact c _ H' _ G' k A' (.int _) q⟩⟩
/-- tuple(x) -/
def dTupQ (t : TA2) : TE2 := fun δ G Q => t δ G fun ds G1 => Q (.tup ds) G1
theorem pd_tupQ (hg : Gl X "tuple") (hm : X.mg "tuple" = none) (ha : PQ2 X e t) (he : starEach [e] X.env = (false, eval e X.env) :: starEach [] X.env := by rfl) : PE2 X (.Call (.Name "tuple" p) [e] [] pos) (dTupQ t) :=
  (pe_callTy call_tuple_of hg hm boot_tuple (pa_cons ha pa_nil he) (by decide) (by decide) he).imp fun σ H Q ⟨δ, G, Q2, A, t, c⟩ =>
    ⟨δ, G, _, A, t, fun p vs H' ds G' k A' hs r q => ⟨p, vs, rfl, by
      rcases hs with hs | hs
      · exact .inl ⟨hs, fun l hl => c _ _ _ G' (k.trans (.lay hl)) (A'.lay hl) (.tup (SqT.of upd_same) (r.keep A' (.lay hl))) q⟩
      · exact .inr ⟨hs, c _ H' _ G' k A' (.tup hs r) q⟩⟩⟩
/-- list(x): a new list -/
theorem pl_listQ (hg : Gl X "list") (hm : X.mg "list" = none) (ha : PQ2 X e t) (he : starEach [e] X.env = (false, eval e X.env) :: starEach [] X.env := by rfl) : PL2 X (.Call (.Name "list" p) [e] [] pos) t :=
  (pe_callTy call_list_of hg hm boot_list (pa_cons ha pa_nil he) (by decide) (by decide) he).imp fun σ H Q ⟨δ, G, Q2, A, t, c⟩ =>
    ⟨δ, G, _, A, t, fun p vs H' ds G' k A' hs r q => ⟨p, vs, rfl, hs, fun l hl => c l vs _ ds G' (k.trans (.lay hl)) (A'.lay hl) (A'.free hl) (k.fr hl) upd_same (r.keep A' (.lay hl)) q⟩⟩
/-- any, all of bools -/
def bools : List D → Option (List Bool)
  | [] => some []
  | .bl b :: r => (bools r).map (b :: ·)
  | _ => none
theorem bools_eq : ∀ {ds : List D} {bs : List Bool}, bools ds = some bs → ds = bs.map D.bl
  | [], bs, h => by cases h; rfl
  | .bl b :: r, bs, h => by
    unfold bools at h
    cases e : bools r with
    | none => rw [e] at h; cases h
    | some c => rw [e] at h; cases h; rw [bools_eq e]; rfl
  | .non :: _, _, h => by cases h
  | .int _ :: _, _, h => by cases h
  | .str _ :: _, _, h => by cases h
  | .tup _ :: _, _, h => by cases h
  | .ref _ :: _, _, h => by cases h
  | .cd _ :: _, _, h => by cases h
  | .scr _ :: _, _, h => by cases h
def dAny (t : TA2) : TE2 := fun δ G Q => t δ G fun ds G1 => match bools ds with
  | some bs => Q (.bl (bs.any id)) G1
  | none => False
def dAll (t : TA2) : TE2 := fun δ G Q => t δ G fun ds G1 => match bools ds with
  | some bs => Q (.bl (bs.all id)) G1
  | none => False
theorem pd_any (hc : X.calm = true) (hg : Gl X "any") (hm : X.mg "any" = none) (ha : PL2 X e t) (he : starEach [e] X.env = (false, eval e X.env) :: starEach [] X.env := by rfl) : PE2 X (.Call (.Name "any" p) [e] [] pos) (dAny t) :=
  (pe_callB (cr_any hc) hg hm (by decide +kernel) (pa_cons ha pa_nil he) (by decide) (by decide) he).imp fun σ H Q ⟨δ, G, Q2, A, t, c⟩ =>
    ⟨δ, G, _, A, t, fun p vs H' ds G' k A' n f hs r q => by
      cases e : bools ds with
      | none => rw [e] at q; exact q.elim
      | some bs =>
        rw [e] at q
        rw [bools_eq e] at r
        rw [r.bls] at hs
        exact ⟨p, bs, rfl, SqL.of hs, c _ H' _ G' k A' (.bl _) q⟩⟩
theorem pd_all (hc : X.calm = true) (hg : Gl X "all") (hm : X.mg "all" = none) (ha : PL2 X e t) (he : starEach [e] X.env = (false, eval e X.env) :: starEach [] X.env := by rfl) : PE2 X (.Call (.Name "all" p) [e] [] pos) (dAll t) :=
  (pe_callB (cr_all hc) hg hm (by decide +kernel) (pa_cons ha pa_nil he) (by decide) (by decide) he).imp fun σ H Q ⟨δ, G, Q2, A, t, c⟩ =>
    ⟨δ, G, _, A, t, fun p vs H' ds G' k A' n f hs r q => by
      cases e : bools ds with
      | none => rw [e] at q; exact q.elim
      | some bs =>
        rw [e] at q
        rw [bools_eq e] at r
        rw [r.bls] at hs
        exact ⟨p, bs, rfl, SqL.of hs, c _ H' _ G' k A' (.bl _) q⟩⟩
/-- max of whole numbers -/
def intsOf : List D → Option (List Int)
  | [] => some []
  | .int b :: r => (intsOf r).map (b :: ·)
  | _ => none
theorem intsOf_eq : ∀ {ds : List D} {bs : List Int}, intsOf ds = some bs → ds = bs.map D.int
  | [], bs, h => by cases h; rfl
  | .int b :: r, bs, h => by
    unfold intsOf at h
    cases e : intsOf r with
    | none => rw [e] at h; cases h
    | some c => rw [e] at h; cases h; rw [intsOf_eq e]; rfl
  | .non :: _, _, h => by cases h
  | .bl _ :: _, _, h => by cases h
  | .str _ :: _, _, h => by cases h
  | .tup _ :: _, _, h => by cases h
  | .ref _ :: _, _, h => by cases h
  | .cd _ :: _, _, h => by cases h
  | .scr _ :: _, _, h => by cases h
def dMaxL (t : TA2) : TE2 := fun δ G Q => t δ G fun ds G1 => match intsOf ds with
  | some ns => ns ≠ [] ∧ ∀ m, m ∈ ns → (∀ y ∈ ns, y ≤ m) → Q (.int m) G1
  | none => False
theorem pd_maxL (hc : X.calm = true) (hg : Gl X "max") (hm : X.mg "max" = none) (ha : PL2 X e t) (he : starEach [e] X.env = (false, eval e X.env) :: starEach [] X.env := by rfl) : PE2 X (.Call (.Name "max" p) [e] [] pos) (dMaxL t) :=
  (pe_callB (cr_max hc) hg hm boot_max (pa_cons ha pa_nil he) (by decide) (by decide) he).imp fun σ H Q ⟨δ, G, Q2, A, t, c⟩ =>
    ⟨δ, G, _, A, t, fun p vs H' ds G' k A' n f hs r q => by
      cases e : intsOf ds with
      | none => rw [e] at q; exact q.elim
      | some ns =>
        rw [e] at q
        rw [intsOf_eq e] at r
        rw [r.ints] at hs
        exact ⟨p, ns, rfl, SqL.of hs, List.length_pos_iff.mpr q.1, fun m h1 h2 => c _ H' _ G' k A' (.int _) (q.2 m h1 h2)⟩⟩
end
/-- int(n) -/
def rInt : Sem2 := fun ds G Q => match ds with
  | [.int i] => Q (.int i) G
  | _ => False
theorem call_int2 : CallR2 X (.type "int") rInt := by
  intro pins s σ H xs us Q I rs ⟨ds, G, Q2, A, rd, q, c⟩
  unfold rInt at q
  split at q
  · cases rd with
    | cons r t =>
      cases t
      cases r
      exact call_int1 pins s σ H _ us Q I rs (.inl ⟨_, rfl, c _ H _ G .refl A (.int _) q⟩)
  · exact q.elim
/-- max(m, n) -/
def rMax2 : Sem2 := fun ds G Q => match ds with
  | [.int i, .int j] => Q (.int (if j > i then j else i)) G
  | _ => False
theorem call_max2D (hc : X.calm = true) : CallR2 X (.builtin "max") rMax2 := by
  intro pins s σ H xs us Q I rs ⟨ds, G, Q2, A, rd, q, c⟩
  unfold rMax2 at q
  split at q
  · cases rd with
    | cons r t =>
      cases r
      cases t with
      | cons r t =>
        cases r
        cases t
        exact call_max2 hc pins s σ H _ us Q I rs ⟨_, _, rfl, c _ H _ G .refl A (.int _) q⟩
  · exact q.elim
/-- isinstance -/
def isB (G : Gp) (d : D) (T : String) : Option Bool := match d with
  | .non => some (T == "NoneType")
  | .bl _ => some (T == "bool" || T == "int")
  | .int _ => some (T == "int")
  | .str _ => some (T == "str")
  | .tup _ => some (T == "tuple")
  | .ref a => match G a with
    | some (.lst _ _) => some (T == "list")
    | _ => none
  | _ => none
def dIsi (T : String) (t : TE2) : TE2 := fun δ G Q => t δ G fun d G1 => match isB G1 d T with
  | some b => Q (.bl b) G1
  | none => False
theorem pd_isi {T : String} {a : Expr} {ta : TE2} {p p2 pos : Pos} (hT : T = "bool" ∨ T = "int" ∨ T = "str" ∨ T = "tuple" ∨ T = "list") (hg : Gl X "isinstance") (hm : X.mg "isinstance" = none) (hg2 : Gl X (Str.ofString T)) (hm2 : X.mg (Str.ofString T) = none) (ha : PE2 X a ta)
    (he : starEach [a, .Name (Str.ofString T) p2] X.env = (false, eval a X.env) :: starEach [.Name (Str.ofString T) p2] X.env := by rfl) (he2 : starEach [.Name (Str.ofString T) p2] X.env = (false, eval (.Name (Str.ofString T) p2) X.env) :: starEach [] X.env := by rfl)
    (hpl : (backTo pos (starEach [.Name (Str.ofString T) p2] X.env)).any (·.1) = false := by rfl) : PE2 X (.Call (.Name "isinstance" p) [a, .Name (Str.ofString T) p2] [] pos) (dIsi T ta) := by
  have hb : bootBuiltins (Str.ofString T) = some (.type T) := by
    rcases hT with rfl | rfl | rfl | rfl | rfl <;> decide +kernel
  have hn : Str.ofString T ≠ "__name__" ∧ (Str.ofString T == ("__debug__" : Str)) = false := by
    rcases hT with rfl | rfl | rfl | rfl | rfl <;> decide +kernel
  have pT : PE X (.Name (Str.ofString T) p2) (tC (.ty T)) := pe_bltn hg2 hm2 hb rfl hn.1 hn.2
  refine (pe_callB call_isi hg hm boot_isinstance (pa_cons ha (pa_cons pT pa_nil he2) he) (by decide) (by decide) he hpl).imp fun σ H Q ⟨δ, G, Q2, A, t, c⟩ => ?_
  refine ⟨δ, G, _, A, t, fun v H1 d G1 k1 A1 r1 q1 => ?_⟩
  show rIsi X.K [v, .ty T] H1 Q
  have fin : ∀ (U : String) (b : Bool), isB G1 d T = some b → TyX X.K H1 v (.type U) → kitB U T = some b → rIsi X.K [v, .ty T] H1 Q := fun U b e ty kb => by
    rw [e] at q1
    exact ⟨v, .ty T, .type U, .type T, b, rfl, .ty T, ty, kit_ty kb, c _ H1 _ G1 k1 A1 (.bl _) q1⟩
  cases r1 with
  | non => exact fin "NoneType" _ rfl (.base .non) (by rcases hT with rfl | rfl | rfl | rfl | rfl <;> decide +kernel)
  | bl b => exact fin "bool" _ rfl (.base (.bl b)) (by rcases hT with rfl | rfl | rfl | rfl | rfl <;> decide +kernel)
  | int i => exact fin "int" _ rfl (.base (.int i)) (by rcases hT with rfl | rfl | rfl | rfl | rfl <;> decide +kernel)
  | str x => exact fin "str" _ rfl (.base (.str _)) (by rcases hT with rfl | rfl | rfl | rfl | rfl <;> decide +kernel)
  | @tup a vs ds hs hr =>
    refine fin "tuple" _ rfl ?_ (by rcases hT with rfl | rfl | rfl | rfl | rfl <;> decide +kernel)
    rcases hs with (h | ⟨o, h⟩) | ⟨o, its, n, h, hc, _⟩
    · exact .base (.tup h)
    · exact .fTuple h
    · exact .kTuple h hc
  | ref a =>
    cases g : G1 a with
    | none => unfold isB at q1; dsimp only at q1; rw [g] at q1; exact q1.elim
    | some m =>
      cases m with
      | lst l ds =>
        refine fin "list" (T == "list") (by unfold isB; dsimp only; rw [g]) ?_ (by rcases hT with rfl | rfl | rfl | rfl | rfl <;> decide +kernel)
        obtain ⟨vs, _, hl⟩ := A1 a _ g
        cases l with
        | false => exact .base (.lst hl)
        | true => obtain ⟨o, hl⟩ := hl; exact .base (.frz hl)
      | dic l t kvs => unfold isB at q1; dsimp only at q1; rw [g] at q1; exact q1.elim
      | tpl ds => unfold isB at q1; dsimp only at q1; rw [g] at q1; exact q1.elim
  | cd _ => exact q1.elim
  | scr _ => exact q1.elim
end SD

set_option Elab.async false
set_option linter.all false
set_option maxRecDepth 100000
namespace SD
open PySem PySem.Spec PyProof.Rows L2
variable {X : Cx}

/-! ## 9. methods -/
def tyG (T : String) (d : D) (G : Gp) : Prop := match d with
  | .ref a => match G a with
    | some (.lst _ _) => T = "list"
    | some (.dic _ _ _) => T = "dict"
    | some (.tpl _) => T = "tuple"
    | none => False
  | _ => False
theorem tyG_is {pins : List (Addr × Obj)} {σ : L2.St} {H : Hp} {s : Shared} {G : Gp} {T : String} {x : V} {v : Value} {d : D} (I : Inv X pins σ H s) (A : AbsG X.fx H G) (rx : RelV x v) (hx : DV X.fx H x d) (ty : tyG T d G) :
    s.TypeIs v T ∧ ∀ a, v = .ref a → ∃ ob, s.heap.get? a = some ob ∧ ob.dict = none := by
  cases hx with
  | ref a =>
    cases rx
    unfold tyG at ty
    dsimp only at ty
    cases g : G a with
    | none => rw [g] at ty; exact ty.elim
    | some m =>
      rw [g] at ty
      cases m with
      | lst l ds =>
        cases (show T = "list" from ty)
        obtain ⟨vs, r, hs⟩ := A.lst g
        obtain ⟨its, _, pl, _⟩ := I.list hs
        refine ⟨pl.isList.typeIs, fun b e => ?_⟩
        cases e
        obtain ⟨o, n, e, c, hd, _⟩ := pl
        exact ⟨o, e, hd⟩
      | dic l t kvs =>
        cases (show T = "dict" from ty)
        have hm := A a _ g
        have fin : (∃ o, s.heap.get? a = some o ∧ o.ExactDict) → s.TypeIs (.ref a) "dict" ∧ ∀ b, Value.ref a = .ref b → ∃ ob, s.heap.get? b = some ob ∧ ob.dict = none := fun ⟨o, e, ex⟩ => ⟨⟨o, e, ex.1⟩, fun b q => by cases q; exact ⟨o, e, ex.2.1⟩⟩
        cases t with
        | false =>
          obtain ⟨_, ⟨ks, rfl, r⟩, hl⟩ := hm
          obtain ⟨_, _, vs, _, o, _, _, h1, h2, _⟩ := dk_rd I.hok hl.rd
          exact fin ⟨o, h1, h2⟩
        | true =>
          obtain ⟨_, ⟨xs, rfl, nd, r⟩, hl⟩ := hm
          obtain ⟨_, _, o, _, _, h1, h2, _⟩ := dt_real I nd r hl.rd
          exact fin ⟨o, h1, h2⟩
      | tpl ds =>
        cases (show T = "tuple" from ty)
        obtain ⟨vs, o, r, h, hn⟩ := A a _ g
        obtain ⟨e, _, its, _, pl⟩ := I.hok a _ h
        obtain ⟨o', e', hc, _⟩ := pl
        rw [e] at e'
        cases e'
        exact ⟨⟨o, e, hc⟩, fun b q => by cases q; exact ⟨o, e, hn⟩⟩
  | _ => exact ty.elim
abbrev RM2 := D → List D → Gp → VK2 → Prop
def liftM (F : Fx) (r : RM2) : V → List V → Hp → VK → Prop := fun x xs H Q => ∃ d ds G Q2, AbsG F H G ∧ DV F H x d ∧ DVs F H xs ds ∧ r d ds G Q2 ∧ Co F H G Q2 Q
def MtR2 (X : Cx) (id : String) (r : RM2) : Prop := MtR X id (liftM X.fx r)
def dMeth (T : String) (r : RM2) (to : TE2) (t : TA2) : TE2 := fun δ G Q => to δ G fun d G1 => tyG T d G1 ∧ t δ G1 fun ds G2 => r d ds G2 Q
theorem pd_bm {o e : Expr} {es : List Expr} {n : Nat} {to : TE2} {t : TA2} {name : Str} {apos cpos : Pos} {T id : String} {r : RM2} (pa : PlainAttrs T) (slot : Slot T name id) (hty : typeOf (.builtin id) = pure (.type "method_descriptor")) (hm : MtR2 X id r) (ho : PE2 X o to) (ha : PA2 X (e :: es) n t)
    (hbase : attributeBase o name X.env (eval o X.env) = eval o X.env := by rfl)
    (hfew : ((backTo cpos (starEach (e :: es) X.env)).all (fun x => !x.1) && (backToKw cpos (keywordEach [] X.env)).all (fun x => x.1.isSome)
      && decide ((e :: es).length + ([] : List Keyword).length + (if ([] : List Keyword).isEmpty then 0 else 1) < 30)) = true := by rfl)
    (hline : (apos.endLine == cpos.line) = true := by rfl) (hs : starEach (e :: es) X.env = (false, eval e X.env) :: starEach es X.env := by rfl) (hplain : (backTo cpos (starEach es X.env)).any (·.1) = false := by rfl) :
    PE2 X (.Call (.Attribute o name apos) (e :: es) [] cpos) (dMeth T r to t) := by
  refine ⟨fun pins s σ H Q I ⟨δ, G, Q2, A, tt, c⟩ => ?_⟩
  refine wpAny_Call_method_late hbase hfew hline rfl (thn (ho.run pins s σ H (fun x H1 => ∃ d G1, Keep H G H1 G1 ∧ AbsG X.fx H1 G1 ∧ DV X.fx H1 x d ∧ tyG T d G1 ∧ t δ G1 fun ds G2 => r d ds G2 Q2) I ⟨δ, G, _, A, tt, fun v H1 d G1 k1 A1 r1 q1 => ⟨d, G1, k1, A1, r1, q1⟩⟩) fun v s1 ⟨x, H1, I1, rx, d, G1, k1, A1, r1, ty, q1⟩ => ?_)
  obtain ⟨h1, h2⟩ := tyG_is I1 A1 rx r1 ty
  refine ⟨T, id, pa, slot, hty, h1, h2, ?_⟩
  have hA := ha.run cpos pins s1 σ H1 (fun xs H2 => ∃ ds G2, Keep H1 G1 H2 G2 ∧ AbsG X.fx H2 G2 ∧ DVs X.fx H2 xs ds ∧ r d ds G2 Q2) I1 ⟨δ, G1, _, A.to k1 A1, q1, fun vs H2 ds G2 k2 A2 r2 _ q2 => ⟨ds, G2, k2, A2, r2, q2⟩⟩
  rw [hs] at hA ⊢
  refine Calls.callWith_builtin (by show (false || (backTo cpos (starEach es X.env)).any (·.1)) = false; rw [hplain] <;> rfl) (Calls.evalArgs_plain ?_)
  exact thn hA fun us s2 ⟨vs, H2, I2, rs, ds, G2, k2, A2, r2, q2⟩ => hm pins s2 σ H2 x vs v us Q I2 rx rs ⟨d, ds, G2, Q2, A2, r1.keep A1 k2, r2, q2, c.trans (k1.trans k2)⟩
theorem pd_bm0 {o : Expr} {to : TE2} {name : Str} {apos cpos : Pos} {T id : String} {r : RM2} (pa : PlainAttrs T) (slot : Slot T name id) (hty : typeOf (.builtin id) = pure (.type "method_descriptor")) (hm : MtR2 X id r) (ho : PE2 X o to)
    (hbase : attributeBase o name X.env (eval o X.env) = eval o X.env := by rfl) (hline : (apos.endLine == cpos.line) = true := by rfl) : PE2 X (.Call (.Attribute o name apos) [] [] cpos) (dMeth T r to dNil) := by
  refine ⟨fun pins s σ H Q I ⟨δ, G, Q2, A, tt, c⟩ => ?_⟩
  refine wpAny_Call_method0_late hbase hline (thn (ho.run pins s σ H (fun x H1 => ∃ d G1, Keep H G H1 G1 ∧ AbsG X.fx H1 G1 ∧ DV X.fx H1 x d ∧ tyG T d G1 ∧ r d [] G1 Q2) I ⟨δ, G, _, A, tt, fun v H1 d G1 k1 A1 r1 q1 => ⟨d, G1, k1, A1, r1, q1⟩⟩) fun v s1 ⟨x, H1, I1, rx, d, G1, k1, A1, r1, ty, q1⟩ => ?_)
  obtain ⟨h1, h2⟩ := tyG_is I1 A1 rx r1 ty
  exact ⟨T, id, pa, slot, hty, h1, h2, Calls.callWith_builtin rfl (PySem.evalArgs_none (hm pins s1 σ H1 x [] v [] Q I1 rx .nil ⟨d, [], G1, Q2, A1, r1, .nil, q1, c.trans k1⟩))⟩

/-- what an unlocked list becomes -/
theorem lst_write {F : Fx} {H : Hp} {G : Gp} (A : AbsG F H G) {a : Addr} {ds : List D} (g : G a = some (.lst false ds)) {vs' : List V} {ds' : List D} (r : DVs F H vs' ds') :
    Keep H G (upd H a (.lst vs')) (gput G a (.lst false ds')) ∧ AbsG F (upd H a (.lst vs')) (gput G a (.lst false ds')) := by
  obtain ⟨vs, _, e⟩ := A.lstF g
  have nf : ∀ ob u, H a ≠ some (.frz ob u) := fun ob u z => by rw [e] at z; cases z
  have k : Keep H G (upd H a (.lst vs')) (gput G a (.lst false ds')) := Keep.write A g nf
  exact ⟨k, A.write g nf (show MOk F _ a (.lst false ds') from ⟨vs', r.keep A k, upd_same⟩)⟩
def mAppend : RM2 := fun d ds G Q => match d, ds with
  | .ref a, [y] => match G a with
    | some (.lst false xs) => xs.length < sizeLine ∧ Q .non (gput G a (.lst false (xs ++ [y])))
    | _ => False
  | _, _ => False
theorem mt_append2 : MtR2 X "list.append" mAppend := by
  intro pins s σ H x xs v us Q I rx rs ⟨d, ds, G, Q2, A, hx, hs, q, c⟩
  unfold mAppend at q
  split at q
  · rename_i a y
    split at q
    · rename_i zs g
      cases hx
      cases hs with
      | cons ry t =>
        cases t
        obtain ⟨vs, r, e⟩ := A.lstF g
        obtain ⟨k, A'⟩ := lst_write A g (r.append (.one ry))
        exact mt_append pins s σ H _ _ v us Q I rx rs ⟨a, vs, _, rfl, rfl, e, by rw [r.length]; exact q.1, c _ _ _ _ k A' .non q.2⟩
    · exact q.elim
  · exact q.elim
def mExtend : RM2 := fun d ds G Q => match d, ds with
  | .ref a, [.ref b] => match G a, G b with
    | some (.lst false xs), some (.lst false ys) => xs.length + ys.length ≤ sizeLine ∧ Q .non (gput G a (.lst false (xs ++ ys)))
    | _, _ => False
  | _, _ => False
theorem mt_extend2 : MtR2 X "list.extend" mExtend := by
  intro pins s σ H x xs v us Q I rx rs ⟨d, ds, G, Q2, A, hx, hs, q, c⟩
  unfold mExtend at q
  split at q
  · rename_i a b
    split at q
    · rename_i zs ws g1 g2
      cases hx
      cases hs with
      | cons ry t =>
        cases ry
        cases t
        obtain ⟨vs, r, e⟩ := A.lstF g1
        obtain ⟨vs2, r2, e2⟩ := A.lstF g2
        obtain ⟨k, A'⟩ := lst_write A g1 (r.append r2)
        exact mt_extend pins s σ H _ _ v us Q I rx rs ⟨a, b, vs, vs2, rfl, rfl, e, e2, by rw [r.length, r2.length]; exact q.1, c _ _ _ _ k A' .non q.2⟩
    · exact q.elim
  · exact q.elim
def mPop : RM2 := fun d ds G Q => match d, ds with
  | .ref a, [] => match G a with
    | some (.lst false xs) => match xs[xs.length - 1]? with
      | some y => Q y (gput G a (.lst false xs.dropLast))
      | none => False
    | _ => False
  | .ref a, [.int i] => match G a with
    | some (.lst false xs) => i = 0 ∧ match xs with
      | y :: r => Q y (gput G a (.lst false r))
      | [] => False
    | _ => False
  | _, _ => False
theorem mt_pop2 : MtR2 X "list.pop" mPop := by
  intro pins s σ H x xs v us Q I rx rs ⟨d, ds, G, Q2, A, hx, hs, q, c⟩
  unfold mPop at q
  split at q
  · rename_i a
    split at q
    · rename_i zs g
      split at q
      · rename_i y ey
        cases hx
        cases hs
        obtain ⟨vs, r, e⟩ := A.lstF g
        obtain ⟨w, ew, rw'⟩ := r.get ey
        obtain ⟨k, A'⟩ := lst_write A g r.dropLast
        exact mt_pop pins s σ H _ _ v us Q I rx rs ⟨a, vs, w, rfl, rfl, e, by rw [r.length]; exact ew, c _ _ _ _ k A' (rw'.keep A k) q⟩
      · exact q.elim
    · exact q.elim
  · rename_i a i
    split at q
    · rename_i zs g
      obtain ⟨hi, q⟩ := q
      subst hi
      split at q
      · rename_i y r' 
        cases hx
        cases hs with
        | cons ry t =>
          cases ry
          cases t
          obtain ⟨vs, r, e⟩ := A.lstF g
          cases r with
          | @cons w _ vs' _ ra rb =>
            obtain ⟨k, A'⟩ := lst_write A g rb
            exact mt_popAt pins s σ H _ _ v us Q I rx rs ⟨a, w :: vs', 0, 0, w, rfl, rfl, e, by decide, by decide, by simp [seqIndex?], rfl, c _ _ _ _ k A' (ra.keep A k) q⟩
      · exact q.elim
    · exact q.elim
  · exact q.elim
/-- l.index(x): the first place -/
noncomputable def idx (ds : List D) (d : D) : Option Nat := ds.findIdx? fun e => decide (e = d)
noncomputable def mIndex : RM2 := fun d ds G Q => match d, ds with
  | .ref a, [y] => match G a with
    | some (.lst _ xs) => (lev y ≤ 60 ∧ levs xs ≤ 59) ∧ match idx xs y with
      | some j => Q (.int j) G
      | none => False
    | _ => False
  | _, _ => False
theorem toPys_get : ∀ (ds : List D) (i : Nat), (toPy.toPys ds)[i]? = ds[i]?.map toPy
  | [], _ => rfl
  | _ :: _, 0 => rfl
  | _ :: ds, i + 1 => by
    show (toPy.toPys ds)[i]? = _
    rw [toPys_get ds i]; rfl
theorem levs_get : ∀ (ds : List D) (i : Nat) (d : D), ds[i]? = some d → lev d ≤ lev.levs ds
  | [], _, _, h => by simp at h
  | x :: ds, 0, d, h => by
    cases (show x = d by simpa using h)
    show lev x ≤ max (lev x) (lev.levs ds); omega
  | x :: ds, i + 1, d, h => by
    have := levs_get ds i d (by simpa using h)
    show lev d ≤ max (lev x) (lev.levs ds); omega
theorem mt_index2 (hu : X.A.units + 65 < cLine) : MtR2 X "list.index" mIndex := by
  intro pins s σ H x xs v us Q I rx rs ⟨d, ds, G, Q2, A, hx, hs, q, c⟩
  unfold mIndex at q
  split at q
  · rename_i a y
    split at q
    · rename_i l zs g
      obtain ⟨hl, q⟩ := q
      split at q
      · rename_i j ej
        cases hx
        cases hs with
        | cons ry t =>
          cases t
          obtain ⟨vs, r, e⟩ := A.lst g
          have l2 : lev.levs zs ≤ 60 := Nat.le_trans hl.2 (by decide)
          obtain ⟨c1, c2⟩ := toPy_oks zs l2
          obtain ⟨hj, h1, h2⟩ := List.findIdx?_eq_some_iff_getElem.mp ej
          have sh : SeqAt.shaped (.list (toPys zs)) = true := by
            unfold SeqAt.shaped
            show (PyData.canLayAll0 (toPys zs) && decide (PyData.depthAll (toPys zs) + 1 ≤ 64)) = true
            rw [show PyData.canLayAll0 (toPys zs) = true from c1, show PyData.depthAll (toPys zs) = levs zs from c2]
            have := hl.2
            simp; omega
          refine mt_indexD hu pins s σ H _ _ v us Q I rx rs ⟨a, _, toPy y, toPys zs, j, toPy zs[j], rfl, rfl, .lst e (toPy_dps zs vs l2 r), toPy_dp _ _ hl.1 ry, sh, toPy_shaped hl.1, ?_, ?_, fun m z' hm hz => ?_, c _ H _ G .refl A (.int _) q⟩
          · show (toPy.toPys zs)[j]? = _
            rw [toPys_get, List.getElem?_eq_getElem hj]; rfl
          · rw [toPy_eqv _ _ (Nat.le_trans (levs_get zs j _ (List.getElem?_eq_getElem hj)) l2) hl.1]
            exact h1
          · have hz' : (toPy.toPys zs)[m]? = some z' := hz
            have hmj : m < zs.length := by omega
            rw [toPys_get, List.getElem?_eq_getElem hmj] at hz'
            cases hz'
            rw [toPy_eqv _ _ (Nat.le_trans (levs_get zs m _ (List.getElem?_eq_getElem hmj)) l2) hl.1]
            have := h2 m hm
            simpa using this
      · exact q.elim
    · exact q.elim
  · exact q.elim
end SD

set_option Elab.async false
set_option linter.all false
set_option maxRecDepth 100000
namespace SD
open PySem PySem.Spec PyProof.Rows L2
variable {X : Cx}

/-! ## 10. stores -/
theorem dk_write {F : Fx} {H : Hp} {G : Gp} (A : AbsG F H G) {a : Addr} {kvs : List (D × D)} (g : G a = some (.dic false false kvs)) {ks' : List (Key × V)} {kvs' : List (D × D)} (r : DKR F H ks' kvs') :
    Keep H G (upd H a (.dK ks')) (gput G a (.dic false false kvs')) ∧ AbsG F (upd H a (.dK ks')) (gput G a (.dic false false kvs')) := by
  obtain ⟨_, ⟨ks, rfl, _⟩, e⟩ := A a _ g
  have e' : H a = some (.dK ks) := e
  have nf : ∀ ob u, H a ≠ some (.frz ob u) := fun ob u z => by rw [e'] at z; cases z
  have k : Keep H G (upd H a (.dK ks')) (gput G a (.dic false false kvs')) := Keep.write A g nf
  refine ⟨k, A.write g nf (show MOk F _ a (.dic false false kvs') from ⟨_, ⟨ks', rfl, ?_⟩, upd_same⟩)⟩
  exact Paired.mapP r fun p q z => ⟨z.1, z.2.keep A k⟩
theorem dt_write {F : Fx} {H : Hp} {G : Gp} (A : AbsG F H G) {a : Addr} {kvs : List (D × D)} (g : G a = some (.dic false true kvs)) {xs' : List (NestedKey × Addr × Value)} {kvs' : List (D × D)} (nd : (xs'.map (·.1)).Nodup) (r : DTR F H xs' kvs') :
    Keep H G (upd H a (rawD F a xs')) (gput G a (.dic false true kvs')) ∧ AbsG F (upd H a (rawD F a xs')) (gput G a (.dic false true kvs')) := by
  obtain ⟨_, ⟨ks, rfl, _⟩, e⟩ := A a _ g
  have e' : H a = some (rawD F a ks) := e
  have nf : ∀ ob u, H a ≠ some (.frz ob u) := fun ob u z => by rw [e'] at z; unfold rawD at z; cases z
  have k : Keep H G (upd H a (rawD F a xs')) (gput G a (.dic false true kvs')) := Keep.write A g nf
  refine ⟨k, A.write g nf (show MOk F _ a (.dic false true kvs') from ⟨_, ⟨xs', rfl, nd, ?_⟩, upd_same⟩)⟩
  exact Paired.mapP r fun p q ⟨z1, z2, z3, z4, v, z5, z6⟩ => ⟨z1, z2, z3, z4.keep A k, v, z5, z6.keep A k⟩
theorem rawD_ok {F : Fx} {H' : Hp} {h' : Heap} {a : Addr} {xs' : List (NestedKey × Addr × Value)} (hz : xs'.length ≤ sizeLine) (hs : (a == sysModules) = false) (dd : h'.DictOfH (nestedKind F.P F.w) a xs') : ObjOk F.P F.w H' h' a (rawD F a xs') := by
  obtain ⟨o, es, ep, h1, h2, h3, h4, _, _⟩ := dd
  refine ⟨⟨hz, hs, o, es, ep, h1, h2, h3, h4⟩, ⟨o, h1⟩, fun g1 g2 q k => ?_⟩
  obtain ⟨z1, z2, o, es, ep, z3, z4, z5, z6⟩ := q
  exact ⟨z1, z2, o, es, ep, k _ z3, z4, z5, z6⟩
theorem storedH_len {K : Type} [DecidableEq K] (xs : List (K × Addr × Value)) (k : K) (b : Addr) (v : Value) : (storedH xs k b v).length ≤ xs.length + 1 := by
  unfold storedH; split <;> simp
theorem storedH_nodup {K : Type} [DecidableEq K] {xs : List (K × Addr × Value)} (nd : (xs.map (·.1)).Nodup) (k : K) (b : Addr) (v : Value) : ((storedH xs k b v).map (·.1)).Nodup := by
  unfold storedH
  split
  · rw [keys_map_putAt]; exact nd
  · rename_i h
    rw [List.map_append, List.nodup_append]
    refine ⟨nd, by simp, fun x hx y hy => ?_⟩
    have hy' : y = k := by simpa using hy
    subst hy'
    rintro rfl
    obtain ⟨p, hp, e⟩ := List.mem_map.mp hx
    apply h
    have : (xs.find? fun z => decide (z.1 = x)).isSome = true := List.find?_isSome.mpr ⟨p, hp, by simpa using e⟩
    unfold atKey
    cases q : xs.find? fun z => decide (z.1 = x) with
    | none => rw [q] at this; cases this
    | some _ => rfl
/-- a[i] = v -/
abbrev TSet2 := D → D → D → Gp → (Gp → Prop) → Prop
noncomputable def sSet : TSet2 := fun o i v G Q => match o with
  | .ref a => match G a with
    | some (.lst false xs) => match i with
      | .int k => match ixN xs.length k with
        | some j => Q (gput G a (.lst false (xs.set j v)))
        | none => False
      | _ => False
    | some (.dic false t kvs) => KeyC t i ∧ kvs.length < sizeLine ∧ Q (gput G a (.dic false t (dput kvs i v)))
    | _ => False
  | _ => False
def liftS (F : Fx) (t : TSet2) : TSet := fun o i v H Q => ∃ d1 d2 d3 G Q2, AbsG F H G ∧ DV F H o d1 ∧ DV F H i d2 ∧ DV F H v d3 ∧ t d1 d2 d3 G Q2 ∧ ∀ H' G', Keep H G H' G' → AbsG F H' G' → Q2 G' → Q H'
theorem set_all (hu : X.A.units + 64 < cLine) : PSet X (liftS X.fx sSet) := by
  intro pins s σ H o i v ov iv u Q I ro ri rv ⟨d1, d2, d3, G, Q2, A, h1, h2, h3, q, c⟩
  unfold sSet at q
  split at q
  · rename_i a
    cases h1
    cases ro
    split at q
    · rename_i xs g
      split at q
      · rename_i k
        cases h2
        split at q
        · rename_i j ej
          obtain ⟨vs, r, e⟩ := A.lstF g
          obtain ⟨k1, A1⟩ := lst_write A g (r.set h3 j)
          exact set_list pins s σ H (.ref a) (.int k) v (.ref a) iv u Q I rfl ri rv ⟨a, vs, k, j, rfl, rfl, e, by rw [r.length]; exact ej, c _ _ k1 A1 q⟩
        · exact q.elim
      · exact q.elim
    · rename_i t kvs g
      obtain ⟨kc, hz, q⟩ := q
      cases t with
      | false =>
        obtain ⟨_, ⟨ks, rfl, r⟩, e⟩ := A a _ g
        obtain ⟨k, hk⟩ := keyD_of kc
        have ev := keyD_rel hk h2
        subst ev
        obtain ⟨k1, A1⟩ := dk_write A g (DKR.put r hk h3)
        exact d_setItem (by omega) I (.inl ⟨ks, k, e, rfl, by rw [Paired.len r]; exact hz, rfl⟩) ri rv fun s' I' => ⟨_, I', c _ _ k1 A1 q⟩
      | true =>
        obtain ⟨_, ⟨xs, rfl, nd, r⟩, e⟩ := A a _ g
        have e' : H a = some (rawD X.fx a xs) := e
        obtain ⟨hzz, hs, dd⟩ := dt_real I nd r (.inl e')
        cases d2 with
        | tup ds =>
          have kc' : lev (.tup ds) ≤ 8 := kc
          cases h2 with
          | @tup b vs _ hb hvs =>
            cases ri
            have hdv : DV X.fx H (.ref b) (.tup ds) := .tup hb hvs
            have key := dt_key I (b := b) kc' hdv
            have r' : DTR X.fx H (storedH xs (nk (.tup ds)) b u) (dput kvs (.tup ds) d3) := DTR.put kc' ⟨ds, rfl⟩ hdv rv h3 r
            obtain ⟨k1, A1⟩ := dt_write A g (storedH_nodup nd _ _ _) r'
            refine wpAny_setItem_heap (by show X.A.units + 1 + 8 < cLine; omega) key dd (fun h' dd' sb => ⟨_, ?_, c _ _ k1 A1 q⟩) hzz
            have hl2 : (storedH xs (nk (.tup ds)) b u).length ≤ sizeLine := by
              have := storedH_len xs (nk (.tup ds)) b u
              rw [Paired.len r] at this
              omega
            have he : ∃ q, h'.get? a = some q := let ⟨q, _, _, hq, _⟩ := dd'; ⟨q, hq⟩
            exact d_write I (by rw [e']; exact True.intro) sb he (rawD_ok (F := X.fx) hl2 hs dd')
        | _ => exact kc.elim
    · exact q.elim
  · exact q.elim
def sPut (to ti tv : TE2) : TS2 := fun D δ G => tv δ G fun v G1 => to δ G1 fun o G2 => ti δ G2 fun i G3 => sSet o i v G3 fun G4 => D.nx δ G4
end SD

set_option Elab.async false
set_option linter.all false
set_option maxRecDepth 100000
namespace SD
open PySem PySem.Spec PyProof.Rows L2
variable {X : Cx}

/-! ## 11. tests -/
def asB (d : D) (k : Bool → Prop) : Prop := match d with
  | .bl b => k b
  | _ => False
def dTest (t : TE2) : TT2 := fun δ G Q => t δ G fun d G1 => asB d fun b => Q b G1
theorem DV.bool {F : Fx} {H : Hp} {v : V} {d : D} {k : Bool → Prop} (r : DV F H v d) (q : asB d k) : ∃ b, v = .bl b ∧ d = .bl b ∧ k b := by
  cases r <;> first
    | exact ⟨_, rfl, rfl, q⟩
    | exact q.elim
theorem test_up {F : Fx} {t : TE2} {σ : L2.St} {H : Hp} {Q : Bool → Hp → Prop} (q : upT F (dTest t) σ H Q) : up F t σ H fun x H' => ∃ k, x = .bl k ∧ Q k H' := by
  obtain ⟨δ, G, Q2, A, t, c⟩ := q
  refine ⟨δ, G, _, A, t, fun v H1 d G1 k1 A1 r1 q1 => ?_⟩
  obtain ⟨b, rfl, _, q⟩ := r1.bool q1
  exact ⟨b, rfl, c b H1 G1 k1 A1 q⟩
theorem pt_v {e : Expr} {t : TE2} (h : PE2 X e t) (he : ∀ whole, isTrue e X.env whole = (do let v ← whole; standAt e.pos; holding [v] (truthy v)) := by intro _; rfl) : PT2 X e (dTest t) :=
  (pt_val h he).imp fun _ _ _ q => test_up q
theorem pt_c {op : CmpOp} {a b : Expr} {ta tb : TE2} {r : R22} {pos : Pos} (ho : OpR2 X (compareOp op) r) (ha : PE2 X a ta) (hb : PE2 X b tb) (hm : behindInMarks op b = false := by first | exact nobehind _ (by decide) (by decide) | rfl) : PT2 X (.Compare a [op] [b] pos) (dTest (dOp r ta tb)) := by
  refine (pt_cmpR ho ha hb hm).imp fun σ H Q q => ?_
  exact op_up (R := liftR X.fx r) rel_lift (test_up q)
def dChain (r r' : R22) (ta tb tc : TE2) : TE2 := fun δ G Q => ta δ G fun x G1 => tb δ G1 fun y G2 => r x y G2 fun z G3 => asB z fun k =>
  if k = true then tc δ G3 fun w G4 => r' y w G4 Q else Q (.bl false) G3
theorem chain_up {F : Fx} {r r' : R22} {ta tb tc : TE2} {σ : L2.St} {H : Hp} {Q : VK} (q : up F (dChain r r' ta tb tc) σ H Q) : tChain (liftR F r) (liftR F r') (up F ta) (up F tb) (up F tc) σ H Q := by
  obtain ⟨δ, G, Q2, A, t, c⟩ := q
  refine ⟨δ, G, _, A, t, fun x H1 dx G1 k1 A1 r1 q1 => ?_⟩
  refine ⟨δ, G1, _, A.to k1 A1, q1, fun y H2 dy G2 k2 A2 r2 q2 => ?_⟩
  refine ⟨dx, dy, G2, _, A2, r1.keep A1 k2, r2, q2, fun z H3 dz G3 k3 A3 r3 q3 => ?_⟩
  obtain ⟨b, rfl, _, q⟩ := r3.bool q3
  refine ⟨b, rfl, ?_⟩
  have k13 := (k1.trans k2).trans k3
  cases b with
  | true =>
    simp only [if_true] at q ⊢
    refine ⟨δ, G3, _, A.to k13 A3, q, fun w H4 dw G4 k4 A4 r4 q4 => ?_⟩
    exact ⟨dy, dw, G4, Q2, A4, (r2.keep A2 k3).keep A3 k4, r4, q4, c.trans (k13.trans k4)⟩
  | false =>
    simp only [Bool.false_eq_true, if_false] at q ⊢
    exact c _ H3 _ G3 k13 A3 (.bl false) q
theorem pd_chain {op op' : CmpOp} {a b e : Expr} {r r' : R22} {ta tb tc : TE2} {pos : Pos} (ho : OpR2 X (compareOp op) r) (ho' : OpR2 X (compareOp op') r') (ha : PE2 X a ta) (hb : PE2 X b tb) (hc : PE2 X e tc)
    (hm : lastMarks [op, op'] [b, e] = false := by with_unfolding_all rfl) : PE2 X (.Compare a [op, op'] [b, e] pos) (dChain r r' ta tb tc) :=
  (pe_chain ho ho' ha hb hc hm).imp fun _ _ _ q => chain_up q
theorem pt_ch {op op' : CmpOp} {a b e : Expr} {r r' : R22} {ta tb tc : TE2} {pos : Pos} (ho : OpR2 X (compareOp op) r) (ho' : OpR2 X (compareOp op') r') (ha : PE2 X a ta) (hb : PE2 X b tb) (hc : PE2 X e tc)
    (hm : lastMarks [op, op'] [b, e] = false := by with_unfolding_all rfl) : PT2 X (.Compare a [op, op'] [b, e] pos) (dTest (dChain r r' ta tb tc)) :=
  (pt_chain ho ho' ha hb hc hm).imp fun _ _ _ q => chain_up (test_up q)
def dAnd (t u : TT2) : TT2 := fun δ G Q => t δ G fun c G1 => if c = true then u δ G1 Q else Q false G1
def dOr (t u : TT2) : TT2 := fun δ G Q => t δ G fun c G1 => if c = true then Q true G1 else u δ G1 Q
def dNot (t : TT2) : TT2 := fun δ G Q => t δ G fun c G1 => Q (!c) G1
theorem pw_and12 {a : Expr} {t : TT2} {pos : Pos} (ha : PT2 X a t) : PW2 X (.BoolOp .And [a] pos) t := pw_and1 ha
theorem pw_or12 {a : Expr} {t : TT2} {pos : Pos} (ha : PT2 X a t) : PW2 X (.BoolOp .Or [a] pos) t := pw_or1 ha
theorem pw_and2 {a b : Expr} {rest : List Expr} {t u : TT2} {pos : Pos} (ha : PT2 X a t) (hb : PW2 X (.BoolOp .And (b :: rest) pos) u) : PW2 X (.BoolOp .And (a :: b :: rest) pos) (dAnd t u) := by
  refine (pw_and ha hb).imp fun σ H Q ⟨δ, G, Q2, A, t, c⟩ => ?_
  refine ⟨δ, G, _, A, t, fun b H1 G1 k1 A1 q1 => ?_⟩
  cases b with
  | true => exact ⟨δ, G1, Q2, A.to k1 A1, q1, fun b H2 G2 k2 => c b H2 G2 (k1.trans k2)⟩
  | false => exact c _ _ _ k1 A1 q1
theorem pw_or2 {a b : Expr} {rest : List Expr} {t u : TT2} {pos : Pos} (ha : PT2 X a t) (hb : PW2 X (.BoolOp .Or (b :: rest) pos) u) : PW2 X (.BoolOp .Or (a :: b :: rest) pos) (dOr t u) := by
  refine (pw_or ha hb).imp fun σ H Q ⟨δ, G, Q2, A, t, c⟩ => ?_
  refine ⟨δ, G, _, A, t, fun b H1 G1 k1 A1 q1 => ?_⟩
  cases b with
  | true => exact c _ _ _ k1 A1 q1
  | false => exact ⟨δ, G1, Q2, A.to k1 A1, q1, fun b H2 G2 k2 => c b H2 G2 (k1.trans k2)⟩
theorem pt_not2 {a : Expr} {t : TT2} {pos : Pos} (ha : PT2 X a t) : PT2 X (.UnaryOp .Not a pos) (dNot t) :=
  (pt_not ha).imp fun σ H Q ⟨δ, G, Q2, A, t, c⟩ => ⟨δ, G, _, A, t, fun b H1 G1 k1 A1 q1 => c _ H1 G1 k1 A1 q1⟩
/-- as values -/
def dAndV (ta tb : TE2) : TE2 := fun δ G Q => ta δ G fun x G1 => asB x fun c => if c = true then tb δ G1 Q else Q (.bl false) G1
def dOrV (ta tb : TE2) : TE2 := fun δ G Q => ta δ G fun x G1 => asB x fun c => if c = true then Q (.bl true) G1 else tb δ G1 Q
def dNotV (ta : TE2) : TE2 := fun δ G Q => ta δ G fun x G1 => asB x fun c => Q (.bl (!c)) G1
theorem pd_one {op} {a : Expr} {t : TE2} {pos : Pos} (h : PE2 X a t) : PE2 X (.BoolOp op [a] pos) t := pe_one h
theorem pd_and {a b : Expr} {rest : List Expr} {ta tb : TE2} {pos : Pos} (ha : PE2 X a ta) (hb : PE2 X (.BoolOp .And (b :: rest) pos) tb) : PE2 X (.BoolOp .And (a :: b :: rest) pos) (dAndV ta tb) := by
  refine (pe_and ha hb).imp fun σ H Q ⟨δ, G, Q2, A, t, c⟩ => ?_
  refine ⟨δ, G, _, A, t, fun v H1 d G1 k1 A1 r1 q1 => ?_⟩
  obtain ⟨b, rfl, _, q⟩ := r1.bool q1
  refine ⟨b, rfl, ?_⟩
  cases b with
  | true => exact ⟨δ, G1, Q2, A.to k1 A1, q, c.trans k1⟩
  | false => exact c _ _ _ _ k1 A1 (.bl false) q
theorem pd_or {a b : Expr} {rest : List Expr} {ta tb : TE2} {pos : Pos} (ha : PE2 X a ta) (hb : PE2 X (.BoolOp .Or (b :: rest) pos) tb) : PE2 X (.BoolOp .Or (a :: b :: rest) pos) (dOrV ta tb) := by
  refine (pe_or ha hb).imp fun σ H Q ⟨δ, G, Q2, A, t, c⟩ => ?_
  refine ⟨δ, G, _, A, t, fun v H1 d G1 k1 A1 r1 q1 => ?_⟩
  obtain ⟨b, rfl, _, q⟩ := r1.bool q1
  refine ⟨b, rfl, ?_⟩
  cases b with
  | true => exact c _ _ _ _ k1 A1 (.bl true) q
  | false => exact ⟨δ, G1, Q2, A.to k1 A1, q, c.trans k1⟩
theorem pd_not {a : Expr} {ta : TE2} {pos : Pos} (ha : PE2 X a ta) : PE2 X (.UnaryOp .Not a pos) (dNotV ta) := by
  refine (pe_not ha).imp fun σ H Q ⟨δ, G, Q2, A, t, c⟩ => ?_
  refine ⟨δ, G, _, A, t, fun v H1 d G1 k1 A1 r1 q1 => ?_⟩
  obtain ⟨b, rfl, _, q⟩ := r1.bool q1
  exact ⟨b, rfl, c _ _ _ _ k1 A1 (.bl _) q⟩
def dIf (t : TT2) (ta tb : TE2) : TE2 := fun δ G Q => t δ G fun c G1 => if c = true then ta δ G1 Q else tb δ G1 Q
theorem pd_if {c a b : Expr} {t : TT2} {ta tb : TE2} {pos : Pos} (hc : PT2 X c t) (ha : PE2 X a ta) (hb : PE2 X b tb) : PE2 X (.IfExp c a b pos) (dIf t ta tb) := by
  refine (pe_ifExp hc ha hb).imp fun σ H Q ⟨δ, G, Q2, A, t, c⟩ => ?_
  refine ⟨δ, G, _, A, t, fun b H1 G1 k1 A1 q1 => ?_⟩
  cases b with
  | true => exact ⟨δ, G1, Q2, A.to k1 A1, q1, c.trans k1⟩
  | false => exact ⟨δ, G1, Q2, A.to k1 A1, q1, c.trans k1⟩
/-- is None -/
def isNon : D → Bool
  | .non => true
  | _ => false
def oIs : R22 := fun x y G Q => isNon y = true ∧ Q (.bl (isNon x)) G
def oIsNot : R22 := fun x y G Q => isNon y = true ∧ Q (.bl (!isNon x)) G
theorem DV.isNon {F : Fx} {H : Hp} {v : V} {d : D} (r : DV F H v d) : decide (v = .non) = SD.isNon d := by
  cases r <;> simp [SD.isNon]
theorem DV.toNon {F : Fx} {H : Hp} {v : V} {d : D} (r : DV F H v d) (h : SD.isNon d = true) : v = .non := by
  cases r <;> simp [SD.isNon] at h ⊢
theorem op_is2 : OpR2 X (compareOp .Is) oIs := fun pins s σ H x y v u Q I rx ry ⟨dx, dy, G, Q2, A, hx, hy, q, c⟩ =>
  op_isN pins s σ H x y v u Q I rx ry ⟨hy.toNon q.1, by rw [hx.isNon]; exact c _ H _ G .refl A (.bl _) q.2⟩
theorem op_isnot2 : OpR2 X (compareOp .IsNot) oIsNot := fun pins s σ H x y v u Q I rx ry ⟨dx, dy, G, Q2, A, hx, hy, q, c⟩ =>
  op_notN pins s σ H x y v u Q I rx ry ⟨hy.toNon q.1, by rw [hx.isNon]; exact c _ H _ G .refl A (.bl _) q.2⟩

/-! ## 12. statements -/
def dNext : TS2 := fun D δ G => D.nx δ G
def dSeq (t u : TS2) : TS2 := fun D δ G => t { D with nx := u D } δ G
theorem EnCo.seq {F : Fx} {H : Hp} {G : Gp} {D2 : En2} {D1 : Ends} {u : TS2} (c : EnCo F H G D2 D1) : EnCo F H G { D2 with nx := u D2 } { D1 with nx := upS F u D1 } :=
  ⟨fun σ H' δ G' k A q => ⟨δ, G', D2, A, q, c.trans k⟩, c.2.1, c.2.2.1, c.2.2.2⟩
theorem pss_cons2 {st : Stmt} {rest : List Stmt} {t u : TS2} (h1 : PS2 X st t) (h2 : PSs2 X rest u) : PSs2 X (st :: rest) (dSeq t u) :=
  (pss_cons h1 h2).imp fun D σ H ⟨δ, G, D2, A, t, c⟩ => ⟨δ, G, _, A, t, c.seq⟩
theorem pss_one2 {st : Stmt} {t : TS2} (h1 : PS2 X st t) : PSs2 X [st] t := pss_one h1
theorem pss_nil2 : PSs2 X [] dNext := pss_nil.imp fun D σ H ⟨δ, G, D2, A, t, c⟩ => c.1 σ H δ G .refl A t
def dBreak : TS2 := fun D δ G => D.bk δ G
def dCont : TS2 := fun D δ G => D.ct δ G
theorem ps_break2 {pos : Pos} : PS2 X (.Break pos) dBreak := ps_break.imp fun D σ H ⟨δ, G, D2, A, t, c⟩ => c.2.2.1 σ H δ G .refl A t
theorem ps_cont2 {pos : Pos} : PS2 X (.Continue pos) dCont := ps_continue.imp fun D σ H ⟨δ, G, D2, A, t, c⟩ => c.2.2.2 σ H δ G .refl A t
theorem ps_doc2 {x j pos pos'} : PS2 X (.Expr (.Constant (.str x) j pos) pos') dNext := ps_doc.imp fun D σ H ⟨δ, G, D2, A, t, c⟩ => c.1 σ H δ G .refl A t
def dNever : TS2 := fun _ _ _ => False
theorem ps_never2 {st : Stmt} : PS2 X st dNever := ps_never.imp fun D σ H ⟨δ, G, D2, A, t, c⟩ => t
theorem pss_never2 {st : List Stmt} : PSs2 X st dNever := pss_never.imp fun D σ H ⟨δ, G, D2, A, t, c⟩ => t
def dDrop (te : TE2) : TS2 := fun D δ G => te δ G fun _ G1 => D.nx δ G1
theorem ps_expr2 {e : Expr} {te : TE2} {pos : Pos} (he : PE2 X e te) (hs : swapsWith e none pos.line X.env = pure false := by rfl) : PS2 X (.Expr e pos) (dDrop te) :=
  (ps_expr he hs).imp fun D σ H ⟨δ, G, D2, A, t, c⟩ => ⟨δ, G, _, A, t, fun v H1 d G1 k1 A1 r1 q1 => c.1 σ H1 δ G1 k1 (A.to k1 A1) q1⟩
def dRet (te : TE2) : TS2 := fun D δ G => te δ G D.rt
theorem ps_ret2 {e : Expr} {te : TE2} {pos : Pos} (he : PE2 X e te) : PS2 X (.Return (some e) pos) (dRet te) :=
  (ps_ret he).imp fun D σ H ⟨δ, G, D2, A, t, c⟩ => ⟨δ, G, _, A, t, c.2.1⟩
def dRetN : TS2 := fun D _ G => D.rt .non G
theorem ps_retN2 {pos : Pos} : PS2 X (.Return none pos) dRetN := ps_retN.imp fun D σ H ⟨δ, G, D2, A, t, c⟩ => c.2.1 .non H .non G .refl A.hp .non t
def dIfS (c : TT2) (t u : TS2) : TS2 := fun D δ G => c δ G fun b G1 => if b = true then t D δ G1 else u D δ G1
theorem ps_if2 {c : Expr} {a b : List Stmt} {tc : TT2} {t u : TS2} {pos : Pos} (hc : PT2 X c tc) (ha : PSs2 X a t) (hb : PSs2 X b u) : PS2 X (.If c a b pos) (dIfS tc t u) := by
  refine (ps_if hc ha hb).imp fun D σ H ⟨δ, G, D2, A, t, c⟩ => ⟨δ, G, _, A, t, fun b H1 G1 k1 A1 q1 => ?_⟩
  cases b with
  | true => exact ⟨δ, G1, D2, A.to k1 A1, q1, c.trans k1⟩
  | false => exact ⟨δ, G1, D2, A.to k1 A1, q1, c.trans k1⟩

/-! ### targets -/
abbrev TG2 := D → St2 → Gp → (St2 → Gp → Prop) → Prop
abbrev TGs2 := List D → St2 → Gp → (St2 → Gp → Prop) → Prop
def upG (F : Fx) (ns : List Nat) (g : TG2) : TG := fun v σ H Q => ∃ d δ G Q2, Abs F H σ δ G ∧ DV F H v d ∧ g d δ G Q2 ∧ ∀ σ' H' δ' G', Keep H G H' G' → Abs F H' σ' δ' G' → (∀ vs : List Nat, (∀ n ∈ ns, n ∈ vs) → wipe σ' vs = wipe σ vs) → Q2 δ' G' → Q σ' H'
def upGs (F : Fx) (ns : List Nat) (g : TGs2) : TGs := fun v σ H Q => ∃ d δ G Q2, Abs F H σ δ G ∧ DVs F H v d ∧ g d δ G Q2 ∧ ∀ σ' H' δ' G', Keep H G H' G' → Abs F H' σ' δ' G' → (∀ vs : List Nat, (∀ n ∈ ns, n ∈ vs) → wipe σ' vs = wipe σ vs) → Q2 δ' G' → Q σ' H'
abbrev PG2 (X : Cx) (tg : Expr) (ns : List Nat) (g : TG2) : Prop := PG X tg (upG X.fx ns g)
abbrev PGs2 (X : Cx) (tgs : List Expr) (ns : List Nat) (g : TGs2) : Prop := PGs X tgs (upGs X.fx ns g)
theorem _root_.L2.PG.imp {X : Cx} {e : Expr} {t t' : TG} (h : PG X e t) (i : ∀ v σ H Q, t' v σ H Q → t v σ H Q) : PG X e t' := ⟨fun pins s σ H v u Q I r q => h.run pins s σ H v u Q I r (i _ _ _ _ q)⟩
theorem _root_.L2.PGs.imp {X : Cx} {e : List Expr} {t t' : TGs} (h : PGs X e t) (i : ∀ v σ H Q, t' v σ H Q → t v σ H Q) : PGs X e t' := ⟨fun pins s σ H v u Q I r q => h.run pins s σ H v u Q I r (i _ _ _ _ q)⟩
theorem wipe_set {σ : L2.St} {x : Option V} {n : Nat} : ∀ {vs : List Nat}, n ∈ vs → wipe (σ.set n x) vs = wipe σ vs
  | v :: vs, h => by
    show (wipe (σ.set n x) vs).set v none = (wipe σ vs).set v none
    by_cases e : n ∈ vs
    · rw [wipe_set e]
    · have hv : v = n := by
        rcases List.mem_cons.mp h with z | z
        · exact z.symm
        · exact absurd z e
      subst hv
      have key : ∀ vs : List Nat, v ∉ vs → wipe (σ.set v x) vs = (wipe σ vs).set v x := by
        intro vs
        induction vs with
        | nil => intro _; rfl
        | cons u us ih =>
          intro hn
          simp only [List.mem_cons, not_or] at hn
          show (wipe (σ.set v x) us).set u none = ((wipe σ us).set u none).set v x
          rw [ih hn.2, List.set_comm _ _ hn.1]
      rw [key vs e, List.set_set]
def dgName (i : Nat) : TG2 := fun d δ G Q => Q (δ.set i (some d)) G
theorem pg_name2 (i : Nat) {x : Str} {pos : Pos} (hN : X.N.Nodup) (hi : X.N[i]? = some x := by rfl) (hx : Loc X.env.scope x := by first | exact Or.inl rfl | exact Or.inr rfl) (hf : X.fn x = true ∨ X.env.scope.names.lookup x = some .local := by first | exact .inl rfl | exact .inr rfl | assumption) : PG2 X (.Name x pos) [i] (dgName i) :=
  (pg_name hN hi hx hf).imp fun v σ H Q ⟨d, δ, G, Q2, A, r, q, c⟩ => c _ H _ G .refl ⟨SV.set r i A.sv, A.hp⟩ (fun vs h => wipe_set (h i List.mem_cons_self)) q
def dgNil : TGs2 := fun ds δ G Q => match ds with
  | [] => Q δ G
  | _ => False
def dgCons (g : TG2) (gs : TGs2) : TGs2 := fun ds δ G Q => match ds with
  | d :: r => g d δ G fun δ' G' => gs r δ' G' Q
  | [] => False
theorem pgs_nil2 : PGs2 X [] [] dgNil := pgs_nil.imp fun v σ H Q ⟨d, δ, G, Q2, A, r, q, c⟩ => by
  unfold dgNil at q
  cases r with
  | nil => exact ⟨rfl, c σ H δ G .refl A (fun _ _ => rfl) q⟩
  | cons _ _ => exact q.elim
theorem pgs_cons2 {e : Expr} {es : List Expr} {ns ms : List Nat} {g : TG2} {gs : TGs2} (h1 : PG2 X e ns g) (h2 : PGs2 X es ms gs)
    (hs : (assignEach (e :: es) X.env).map (·.2) = assign e X.env :: (assignEach es X.env).map (·.2) := by rfl) : PGs2 X (e :: es) (ns ++ ms) (dgCons g gs) := (pgs_cons h1 h2 hs).imp fun v σ H Q ⟨d, δ, G, Q2, A, r, q, c⟩ => by
  unfold dgCons at q
  cases r with
  | nil => exact q.elim
  | @cons w d vs ds r t =>
    refine ⟨w, vs, rfl, d, δ, G, _, A, r, q, fun σ1 H1 δ1 G1 k1 A1 w1 q1 => ?_⟩
    refine ⟨ds, δ1, G1, Q2, A1, t.keep A.hp k1, q1, fun σ2 H2 δ2 G2 k2 A2 w2 q2 => c σ2 H2 δ2 G2 (k1.trans k2) A2 (fun vs h => ?_) q2⟩
    rw [w2 vs (fun n hn => h n (List.mem_append_right _ hn)), w1 vs fun n hn => h n (List.mem_append_left _ hn)]
def dgTup (gs : TGs2) : TG2 := fun d δ G Q => match d with
  | .tup ds => gs ds δ G Q
  | _ => False
/-- how many values a target of several asks -/
theorem pg_tup2 {es : List Expr} {k n : Nat} {ns : List Nat} {gs : TGs2} {pos : Pos} (hc : X.calm = true) (h : PGs2 X es ns gs) (hl : ∀ ds δ G Q, gs ds δ G Q → ds.length = n := by
      intro ds δ G Q h; rcases ds with _ | ⟨_, _ | ⟨_, _ | ⟨_, _ | ⟨_, _⟩⟩⟩⟩ <;> first | rfl | exact False.elim h)
    (hn : (assignEach es X.env).length = n := by rfl) (hst : (assignEach es X.env).findIdx? (·.1) = none := by rfl) : PG2 X (.Tuple es k pos) ns (dgTup gs) := (pg_tup hc h hn hst).imp fun v σ H Q ⟨d, δ, G, Q2, A, r, q, c⟩ => by
  unfold dgTup at q
  cases r with
  | @tup a vs ds hs hr => exact ⟨a, vs, rfl, hs, by rw [hr.length]; exact hl ds δ G Q2 q, ds, δ, G, Q2, A, hr, q, c⟩
  | _ => exact q.elim
def dAsg (te : TE2) (g : TG2) : TS2 := fun D δ G => te δ G fun d G1 => g d δ G1 D.nx
theorem ps_asg2' {tg e : Expr} {te : TE2} {ns : List Nat} {g : TG2} {pos : Pos} (he : PE2 X e te) (hg : PG2 X tg ns g) (hs : swapsWithSole [tg] e pos.line X.env = pure false := by rfl) (hw : swappedStores [tg] e X.env = pure none := by rfl)
    (h1 : (assignEach [tg] X.env).map (·.2) = [assign tg X.env] := by rfl) : PS2 X (.Assign [tg] e pos) (dAsg te g) :=
  (ps_asg he hg hs hw h1).imp fun D σ H ⟨δ, G, D2, A, t, c⟩ => ⟨δ, G, _, A, t, fun v H1 d G1 k1 A1 r1 q1 => ⟨d, δ, G1, _, A.to k1 A1, r1, q1, fun σ' H' δ' G' k' A' _ q' => c.1 σ' H' δ' G' (k1.trans k') A' q'⟩⟩
def dSet (i : Nat) (te : TE2) : TS2 := fun D δ G => te δ G fun d G1 => D.nx (δ.set i (some d)) G1
theorem ps_set2 (i : Nat) {x : Str} {e : Expr} {te : TE2} {pos pos' : Pos} (hN : X.N.Nodup) (he : PE2 X e te) (hi : X.N[i]? = some x := by rfl) (hx : Loc X.env.scope x := by first | exact Or.inl rfl | exact Or.inr rfl) (hs : swapsWith e (some (.Name x pos')) pos.line X.env = pure false := by rfl)
    (hf : X.fn x = true ∨ X.env.scope.names.lookup x = some .local := by first | exact .inl rfl | exact .inr rfl | assumption) : PS2 X (.Assign [.Name x pos'] e pos) (dSet i te) :=
  (ps_set hN hi hx he hs hf).imp fun D σ H ⟨δ, G, D2, A, t, c⟩ => ⟨δ, G, _, A, t, fun v H1 d G1 k1 A1 r1 q1 => c.1 _ H1 _ G1 k1 ⟨SV.set r1 i (A.sv.keep A.hp k1), A1⟩ q1⟩
/-- a, b = x, y, two local names -/
def dPar (i j : Nat) (ta tb : TE2) : TS2 := fun D δ G => ta δ G fun x G1 => tb δ G1 fun y G2 => D.nx ((δ.set i (some x)).set j (some y)) G2
theorem ps_par2 (i j : Nat) {x y : Str} {a b : Expr} {ta tb : TE2} {px py pt pos : Pos} {kt k2 : Nat} {pt2 : Pos} (hc : X.calm = true) (hN : X.N.Nodup) (ha : PE2 X a ta) (hb : PE2 X b tb) (hi : X.N[i]? = some x := by rfl) (hj : X.N[j]? = some y := by rfl) (hij : i ≠ j := by decide)
    (hx : X.env.scope.names.lookup x = some .local := by rfl) (hy : X.env.scope.names.lookup y = some .local := by rfl)
    (hw : swappedStores [.Tuple [.Name x px, .Name y py] kt pt] (.Tuple [a, b] k2 pt2) X.env = pure (some [x, y]) := by rfl)
    (hs : swapsWithSole [.Tuple [.Name x px, .Name y py] kt pt] (.Tuple [a, b] k2 pt2) pos.line X.env = pure false := by rfl) (hsa : starEach [a, b] X.env = (false, eval a X.env) :: starEach [b] X.env := by rfl) (hsb : starEach [b] X.env = (false, eval b X.env) :: starEach [] X.env := by rfl) :
    PS2 X (.Assign [.Tuple [.Name x px, .Name y py] kt pt] (.Tuple [a, b] k2 pt2) pos) (dPar i j ta tb) :=
  (ps_par hc hN hi hj hij hx hy (pa_cons ha (pa_cons hb pa_nil hsb) hsa) hw hs).imp fun D σ H ⟨δ, G, D2, A, t, c⟩ =>
    ⟨δ, G, _, A, t, fun v H1 d G1 k1 A1 r1 q1 => ⟨δ, G1, _, A.to k1 A1, q1, fun v2 H2 d2 G2 k2 A2 r2 q2 => ⟨v, v2, rfl, c.1 _ H2 _ G2 (k1.trans k2) ⟨SV.set r2 j (SV.set (r1.keep A1 k2) i ((A.sv.keep A.hp k1).keep A1 k2)), A2⟩ q2⟩⟩⟩
/-- o[i] = v -/
theorem ps_put2 (hu : X.A.units + 64 < cLine) {o i e : Expr} {to ti te : TE2} {pos pos' : Pos} (he : PE2 X e te) (ho : PE2 X o to) (hi : PE2 X i ti) (ha : ∀ v, assign (.Subscript o i pos') X.env v = (do
      let ov ← holding [v] (eval o X.env)
      let iv ← holding [v, ov] (eval i X.env)
      standAt pos'
      holding [v, ov, iv] (setItem ov iv v)
      release [v, ov, iv] []) := by intro _; rfl) (hs : swapsWithSole [.Subscript o i pos'] e pos.line X.env = pure false := by rfl) (hw : swappedStores [.Subscript o i pos'] e X.env = pure none := by rfl)
    (h1 : (assignEach [.Subscript o i pos'] X.env).map (·.2) = [assign (.Subscript o i pos') X.env] := by rfl) : PS2 X (.Assign [.Subscript o i pos'] e pos) (sPut to ti te) :=
  (ps_asg he (pg_sub ho hi (set_all hu) ha) hs hw h1).imp fun D σ H ⟨δ, G, D2, A, t, c⟩ =>
    ⟨δ, G, _, A, t, fun v H1 d G1 k1 A1 r1 q1 => ⟨δ, G1, _, A.to k1 A1, q1, fun v2 H2 d2 G2 k2 A2 r2 q2 => ⟨δ, G2, _, (A.to k1 A1).to k2 A2, q2, fun v3 H3 d3 G3 k3 A3 r3 q3 =>
      ⟨d2, d3, d, G3, _, A3, r2.keep A2 k3, r3, (r1.keep A1 k2).keep A2 k3, q3, fun H4 G4 k4 A4 q4 => c.1 σ H4 δ G4 (((k1.trans k2).trans k3).trans k4) (A.to (((k1.trans k2).trans k3).trans k4) A4) q4⟩⟩⟩⟩
/-- name += e, -= e of whole numbers -/
def dAug (f : Int → Int → Int) (i : Nat) (te : TE2) : TS2 := fun D δ G => match slot δ i with
  | some (.int a) => te δ G fun y G1 => match y with
    | .int b => D.nx (δ.set i (some (.int (f a b)))) G1
    | _ => False
  | _ => False
theorem ps_aug2 (i : Nat) {x : Str} {e : Expr} {te : TE2} {op : Operator} {f : Int → Int → Int} {pos pos' : Pos} (hN : X.N.Nodup) (ho : PIp X op (ipI f)) (he : PE2 X e te) (hi : X.N[i]? = some x := by rfl) (hx : Loc X.env.scope x := by first | exact Or.inl rfl | exact Or.inr rfl)
    (hf : X.fn x = true ∨ X.env.scope.names.lookup x = some .local := by first | exact .inl rfl | exact .inr rfl | assumption) : PS2 X (.AugAssign (.Name x pos') op e pos) (dAug f i te) :=
  (ps_aug hN hi hx he ho hf).imp fun D σ H ⟨δ, G, D2, A, t, c⟩ => by
    unfold dAug at t
    split at t
    · rename_i a ea
      obtain ⟨v, h1, r⟩ := A.sv.slot ea
      cases r
      refine ⟨_, h1, δ, G, _, A, t, fun v2 H2 d2 G2 k2 A2 r2 q2 => ?_⟩
      cases r2 <;> first
        | exact q2.elim
        | exact ⟨a, _, rfl, rfl, c.1 _ H2 _ G2 k2 ⟨SV.set (.int _) i (A.sv.keep A.hp k2), A2⟩ q2⟩
    · exact t.elim
end SD

set_option Elab.async false
set_option linter.all false
set_option maxRecDepth 100000
namespace SD
open PySem PySem.Spec PyProof.Rows L2
variable {X : Cx}

/-! ## 13. while -/
def dWhN (c : TT2) (tb : TS2) (D : En2) : Nat → St2 → Gp → Prop
  | 0 => fun _ _ => False
  | n + 1 => fun δ G => c δ G fun b G1 => if b = true then tb { D with nx := dWhN c tb D n, ct := dWhN c tb D n, bk := D.nx } δ G1 else D.nx δ G1
def dWhile (c : TT2) (tb : TS2) : TS2 := fun D δ G => ∃ n, dWhN c tb D n δ G
theorem ps_while2 {c : Expr} {body : List Stmt} {tc : TT2} {tb : TS2} {pos : Pos} (hp : PassesOwn (model X.prog X.w) X.A X.env X.xe) (hc : PT2 X c tc) (hb : PSs2 X body tb) : PS2 X (.While c body [] pos) (dWhile tc tb) := by
  refine (ps_while hp hc hb).imp fun D1 σ H ⟨δ, G, D2, A, ⟨n, t⟩, c⟩ => ?_
  refine ⟨fun m σ' H' => ∃ δ' G', Keep H G H' G' ∧ Abs X.fx H' σ' δ' G' ∧ dWhN tc tb D2 m δ' G', ⟨n, δ, G, .refl, A, t⟩, ?_⟩
  rintro m σ1 H1 ⟨δ1, G1, k1, A1, t1⟩
  cases m with
  | zero => exact t1.elim
  | succ m =>
    refine ⟨δ1, G1, _, A1, t1, fun b H2 G2 k2 A2 q2 => ?_⟩
    cases b with
    | true =>
      simp only [if_true] at q2 ⊢
      refine ⟨fun σ' H' => ∃ δ' G', Keep H G H' G' ∧ Abs X.fx H' σ' δ' G' ∧ dWhN tc tb D2 m δ' G', fun σ' H' z => ⟨m, Nat.lt_succ_self m, z⟩, ?_⟩
      have k12 := k1.trans k2
      refine ⟨δ1, G2, _, A1.to k2 A2, q2, fun σ' H' δ' G' k A q => ⟨δ', G', k12.trans k, A, q⟩, c.2.1.trans k12, fun σ' H' δ' G' k A q => c.1 σ' H' δ' G' (k12.trans k) A q, fun σ' H' δ' G' k A q => ⟨δ', G', k12.trans k, A, q⟩⟩
    | false =>
      simp only [Bool.false_eq_true, if_false] at q2 ⊢
      exact c.1 σ1 H2 δ1 G2 (k1.trans k2) (A1.to k2 A2) q2

/-! ## 14. what is walked -/
structure DWalk (F : Fx) (H0 : Hp) (G0 : Gp) (J : It) (ds : List D) (C : Gp → Prop) : Prop where
  go : ∀ i H G d, Keep H0 G0 H G → AbsG F H G → C G → ds[i]? = some d → J.go i H ∧ ∀ x H', J.yld i H x H' → Keep H G H' G ∧ AbsG F H' G ∧ DV F H' x d
  stop : ∀ i H G, Keep H0 G0 H G → AbsG F H G → C G → ds.length ≤ i → J.stop i H
abbrev TI2 := St2 → Gp → (List D → (Gp → Prop) → Gp → Prop) → Prop
def upI (F : Fx) (ti : TI2) : TI := fun σ H R => ∃ δ G R2, Abs F H σ δ G ∧ ti δ G R2 ∧ ∀ J ds C H' G', Keep H G H' G' → AbsG F H' G' → DWalk F H' G' J ds C → R2 ds C G' → R J H'
abbrev PI2 (X : Cx) (tg iter : Expr) (ti : TI2) : Prop := PI X tg iter (upI X.fx ti)
theorem _root_.L2.PI.imp {X : Cx} {tg e : Expr} {t t' : TI} (h : PI X tg e t) (i : ∀ σ H R, t' σ H R → t σ H R) : PI X tg e t' := ⟨fun pins s σ H R I q => h.run pins s σ H R I (i _ _ _ q)⟩
def dForW (g : TG2) (tb : TS2) (C : Gp → Prop) (E : En2) : List D → St2 → Gp → Prop
  | [] => fun δ G => C G ∧ E.nx δ G
  | x :: xs => fun δ G => C G ∧ g x δ G fun δ' G' => tb { E with nx := dForW g tb C E xs, ct := dForW g tb C E xs, bk := E.nx } δ' G'
def dFor (ti : TI2) (g : TG2) (tb : TS2) : TS2 := fun D δ G => ti δ G fun ds C G1 => dForW g tb C D ds δ G1
theorem drop_get {α : Type} {ds : List α} {i : Nat} (h : i < ds.length) : ∃ d, ds[i]? = some d ∧ ds.drop i = d :: ds.drop (i + 1) :=
  ⟨ds[i], List.getElem?_eq_getElem h, List.drop_eq_getElem_cons h⟩
theorem ps_for2 {tg iter : Expr} {body : List Stmt} {ti : TI2} {ns : List Nat} {g : TG2} {tb : TS2} {pos : Pos} (hp : PassesOwn (model X.prog X.w) X.A X.env X.xe) (hc : X.calm = true) (hi : PI2 X tg iter ti) (hg : PG2 X tg ns g) (hb : PSs2 X body tb)
    (hs : ∀ x, foldedSetIterable iter X.env x = pure x := by intro _; rfl) : PS2 X (.For tg iter body [] pos) (dFor ti g tb) := by
  refine (ps_for hp hc hi hg hb hs).imp fun D1 σ H ⟨δ, G, D2, A, t, c⟩ => ?_
  refine ⟨δ, G, _, A, t, fun J ds C H1 G1 k1 A1 w q1 => ?_⟩
  refine ⟨fun i m σ' H' => ∃ δ' G', Keep H1 G1 H' G' ∧ Abs X.fx H' σ' δ' G' ∧ m = ds.length - i ∧ i ≤ ds.length ∧ dForW g tb C D2 (ds.drop i) δ' G', ⟨ds.length, δ, G1, .refl, A.to k1 A1, by omega, Nat.zero_le _, q1⟩, ?_⟩
  rintro i m σ2 H2 ⟨δ2, G2, k2, A2, rfl, hi, q2⟩
  by_cases hlt : i < ds.length
  · obtain ⟨d, e1, e2⟩ := drop_get hlt
    rw [e2] at q2
    obtain ⟨cg, q2⟩ := q2
    obtain ⟨go, yl⟩ := w.go i H2 G2 d k2 A2.hp cg e1
    refine .inr ⟨go, fun σ' H' => ∃ δ' G', Keep H1 G1 H' G' ∧ Abs X.fx H' σ' δ' G' ∧ dForW g tb C D2 (ds.drop (i + 1)) δ' G', fun σ' H' ⟨δ', G', k', A', q'⟩ => ⟨ds.length - (i + 1), by omega, δ', G', k', A', rfl, hlt, q'⟩, fun x H3 y => ?_⟩
    obtain ⟨k3, A3, r3⟩ := yl x H3 y
    refine ⟨d, δ2, G2, _, A2.to k3 A3, r3, q2, fun σ4 H4 δ4 G4 k4 A4 _ q4 => ?_⟩
    have k24 := (k2.trans k3).trans k4
    exact ⟨δ4, G4, _, A4, q4, fun σ' H' δ' G' k A q => ⟨δ', G', k24.trans k, A, q⟩, c.2.1.trans (k1.trans k24), fun σ' H' δ' G' k A q => c.1 σ' H' δ' G' ((k1.trans k24).trans k) A q, fun σ' H' δ' G' k A q => ⟨δ', G', k24.trans k, A, q⟩⟩
  · have e : i = ds.length := by omega
    subst e
    rw [List.drop_length] at q2
    exact .inl ⟨w.stop _ H2 G2 k2 A2.hp q2.1 (Nat.le_refl _), c.1 σ2 H2 δ2 G2 (k1.trans k2) A2 q2.2⟩

/-! ### lists, tuples, ranges -/
theorem DWalk.lst {F : Fx} {H : Hp} {G : Gp} {a : Addr} {l : Bool} {ds : List D} : DWalk F H G (Itl F.K a) ds (fun G' => G' a = some (.lst l ds)) where
  go := fun i H1 G1 d k A g e => by
    obtain ⟨vs, r, hs⟩ := A.lst g
    obtain ⟨v, ev, rv⟩ := r.get e
    exact ⟨⟨vs, v, hs, ev⟩, fun x H' y => by
      obtain ⟨rfl, y⟩ := y
      have := y vs hs
      rw [ev] at this; cases this
      exact ⟨.refl, A, rv⟩⟩
  stop := fun i H1 G1 k A g e => by
    obtain ⟨vs, r, hs⟩ := A.lst g
    exact ⟨vs, hs, by rw [r.length]; exact e⟩
theorem DWalk.tup {F : Fx} {H : Hp} {G : Gp} (A0 : AbsG F H G) {a : Addr} {vs : List V} {ds : List D} (h : SqT F.K H a vs) (r0 : DVs F H vs ds) : DWalk F H G (Itt F.K a) ds (fun _ => True) where
  go := fun i H1 G1 d k A g e => by
    have hs := SqT.keep A0 k h
    have r := r0.keep A0 k
    obtain ⟨v, ev, rv⟩ := r.get e
    exact ⟨⟨vs, v, hs, ev⟩, fun x H' y => by
      obtain ⟨rfl, y⟩ := y
      have := y vs hs
      rw [ev] at this; cases this
      exact ⟨.refl, A, rv⟩⟩
  stop := fun i H1 G1 k A g e => ⟨vs, SqT.keep A0 k h, by rw [r0.length]; exact e⟩
theorem DWalk.tmp {F : Fx} {H : Hp} {G : Gp} (A0 : AbsG F H G) {a : Addr} {vs : List V} {ds : List D} (h : H a = some (.lst vs)) (n : G a = none) (r0 : DVs F H vs ds) : DWalk F H G (Itl F.K a) ds (fun _ => True) where
  go := fun i H1 G1 d k A g e => by
    have hs : SqL F.K H1 a vs := SqL.of (k.old a _ h n).1
    have r := r0.keep A0 k
    obtain ⟨v, ev, rv⟩ := r.get e
    exact ⟨⟨vs, v, hs, ev⟩, fun x H' y => by
      obtain ⟨rfl, y⟩ := y
      have := y vs hs
      rw [ev] at this; cases this
      exact ⟨.refl, A, rv⟩⟩
  stop := fun i H1 G1 k A g e => ⟨vs, SqL.of (k.old a _ h n).1, by rw [r0.length]; exact e⟩
def iSeqV (K : PySem.W.Frag) (tl : TE) : TI := fun σ H R => tl σ H fun x H1 => ∃ a, x = .ref a ∧ ((∃ xs, SqL K H1 a xs) ∧ R (Itl K a) H1 ∨ (∃ xs, SqT K H1 a xs) ∧ R (Itt K a) H1)
theorem pi_seqV {tg l : Expr} {tl : TE} (hl : PE X l tl) : PI X tg l (iSeqV X.K tl) := by
  refine ⟨fun pins s σ H R I h => ?_⟩
  refine thn (hl.run pins s σ H _ I h) fun v s1 ⟨x, H1, I1, r1, a, ex, q⟩ => ?_
  subst ex
  cases r1
  rcases q with ⟨⟨xs, hq⟩, q⟩ | ⟨⟨xs, hq⟩, q⟩
  · obtain ⟨its, rv, p, hz⟩ := I1.list hq
    exact wpAny_pyIter_list p.isList (pi_one (tk := s1.toks) I1 _ (turn_list a _) ⟨_, Heap.get?_push_size _ rfl, rfl, rfl⟩ q)
  · obtain ⟨its, rv, p, hz⟩ := I1.tuple hq
    exact wpAny_pyIter_tuple (show s1.heap.IsTuple a its.toArray from p) (pi_one (tk := s1.toks) I1 _ (turn_tuple a _) ⟨_, Heap.get?_push_size _ rfl, rfl, rfl⟩ q)
/-- a tuple or a list -/
def iE (t : TE2) : TI2 := fun δ G R => t δ G fun d G1 => match d with
  | .tup ds => R ds (fun _ => True) G1
  | .ref a => match G1 a with
    | some (.lst l ds) => R ds (fun G' => G' a = some (.lst l ds)) G1
    | some (.tpl ds) => R ds (fun _ => True) G1
    | _ => False
  | _ => False
theorem pi_E {tg l : Expr} {t : TE2} (h : PE2 X l t) : PI2 X tg l (iE t) := (pi_seqV h).imp fun σ H R ⟨δ, G, R2, A, t, c⟩ =>
  ⟨δ, G, _, A, t, fun v H1 d G1 k1 A1 r1 q1 => by
    cases r1 with
    | @tup a vs ds hs hr => exact ⟨a, rfl, .inr ⟨⟨vs, hs⟩, c _ ds _ H1 G1 k1 A1 (.tup A1 hs hr) q1⟩⟩
    | ref a =>
      dsimp only at q1
      split at q1
      · rename_i l ds g
        obtain ⟨vs, r, hs⟩ := A1.lst g
        exact ⟨a, rfl, .inl ⟨⟨vs, hs⟩, c _ ds _ H1 G1 k1 A1 .lst q1⟩⟩
      · rename_i ds g
        obtain ⟨vs, o, r, hs, _⟩ := A1 a _ g
        have hs' : SqT X.fx.K H1 a vs := .inl (.inr ⟨o, hs⟩)
        exact ⟨a, rfl, .inr ⟨⟨vs, hs'⟩, c _ ds _ H1 G1 k1 A1 (.tup A1 hs' r) q1⟩⟩
      · exact q1.elim
    | _ => exact q1.elim⟩
/-- a list just made -/
def iL (t : TA2) : TI2 := fun δ G R => t δ G fun ds G1 => R ds (fun _ => True) G1
theorem pi_L {tg l : Expr} {t : TA2} (h : PL2 X l t) : PI2 X tg l (iL t) := (pi_seqV h).imp fun σ H R ⟨δ, G, R2, A, t, c⟩ =>
  ⟨δ, G, _, A, t, fun a vs H1 ds G1 k1 A1 n f e r q1 => ⟨a, rfl, .inl ⟨⟨vs, SqL.of e⟩, c _ ds _ H1 G1 k1 A1 (.tmp A1 e n r) q1⟩⟩⟩
def rngD (lo : Int) (n : Nat) : List D := (List.range n).map fun i => .int (lo + (i : Nat))
theorem DWalk.rng {F : Fx} {H : Hp} {G : Gp} {lo : Int} {n : Nat} : DWalk F H G (Itr lo n) (rngD lo n) (fun _ => True) where
  go := fun i H1 G1 d k A g e => by
    have hi : i < n := by
      have := (List.getElem?_eq_some_iff.mp e).1
      simpa [rngD] using this
    have ed : d = .int (lo + (i : Nat)) := by
      unfold rngD at e
      rw [List.getElem?_map, List.getElem?_range hi] at e
      exact (Option.some.inj e).symm
    subst ed
    exact ⟨hi, fun x H' y => by
      obtain ⟨rfl, rfl⟩ := y
      exact ⟨.refl, A, .int _⟩⟩
  stop := fun i H1 G1 k A g e => by show n ≤ i; simpa [rngD] using e
def iR1 (ta : TE2) : TI2 := fun δ G R => ta δ G fun d G1 => match d with
  | .int n => (-(2 ^ 62) ≤ n ∧ n < 2 ^ 62) ∧ R (rngD 0 n.toNat) (fun _ => True) G1
  | _ => False
theorem pi_r1 {tg a : Expr} {ta : TE2} {p pos : Pos} (hg : Gl X "range") (hm : X.mg "range" = none) (ha : PE2 X a ta) (hs : starEach [a] X.env = [(false, eval a X.env)] := by rfl) : PI2 X tg (.Call (.Name "range" p) [a] [] pos) (iR1 ta) :=
  (pi_range1 hg hm (pa_cons ha pa_nil hs) hs).imp fun σ H R ⟨δ, G, R2, A, t, c⟩ => ⟨δ, G, _, A, t, fun v H1 d G1 k1 A1 r1 q1 => by
    cases r1 <;> first
      | exact q1.elim
      | exact ⟨_, rfl, q1.1.1, q1.1.2, c _ _ _ H1 G1 k1 A1 .rng q1.2⟩⟩
def iR2 (ta tb : TE2) : TI2 := fun δ G R => ta δ G fun d G1 => tb δ G1 fun e G2 => match d, e with
  | .int i, .int j => (-(2 ^ 62) ≤ i ∧ i < 2 ^ 62 ∧ -(2 ^ 62) ≤ j ∧ j < 2 ^ 62) ∧ R (rngD i (j - i).toNat) (fun _ => True) G2
  | _, _ => False
theorem pi_r2 {tg a b : Expr} {ta tb : TE2} {p pos : Pos} (hg : Gl X "range") (hm : X.mg "range" = none) (ha : PE2 X a ta) (hb : PE2 X b tb) (hs : starEach [a, b] X.env = [(false, eval a X.env), (false, eval b X.env)] := by rfl) (hs2 : starEach [b] X.env = [(false, eval b X.env)] := by rfl) :
    PI2 X tg (.Call (.Name "range" p) [a, b] [] pos) (iR2 ta tb) :=
  (pi_range2 hg hm (pa_cons ha (pa_cons hb pa_nil hs2) (by rw [hs, hs2])) hs hs2).imp fun σ H R ⟨δ, G, R2, A, t, c⟩ => ⟨δ, G, _, A, t, fun v H1 d G1 k1 A1 r1 q1 => ⟨δ, G1, _, A.to k1 A1, q1, fun v2 H2 d2 G2 k2 A2 r2 q2 => by
    cases r1 <;> first
      | exact q2.elim
      | (cases r2 <;> first
          | exact q2.elim
          | exact ⟨_, _, rfl, q2.1, c _ _ _ H2 G2 (k1.trans k2) A2 .rng q2.2⟩)⟩⟩

/-! ### dicts, locked while they are walked -/
def ItRw (d : Addr) (o : Obj) (es : Array DictEntry) : It :=
  ⟨fun i H => (∃ u, H d = some (.frz o u)) ∧ i < es.size, fun i H x H' => H' = H ∧ ∃ e, es[i]? = some e ∧ RelV x e.key, fun i H => (∃ u, H d = some (.frz o u)) ∧ es.size ≤ i⟩
theorem turn_raw {P : Program} {w : World} {K : PySem.W.Frag} {tg : Expr} {d : Addr} {o : Obj} {es : Array DictEntry} {ep : Nat} (it : Addr) (hx : o.ExactDict) (hod : o.data = .dict es ep) (hv : ∀ e ∈ es, ∃ x, RelV x e.key) :
    Turn P w K tg (ItRw d o es) [it] it (fun i h => h.IsKeyIter it d i es.size ep) where
  mem := by simp
  obj := fun i h st b hb => by
    have e : b = it := by simpa using hb
    subst e
    obtain ⟨oi, e, c, dd⟩ := st
    exact ⟨oi, e, fun v z => by rw [dd] at z; cases z⟩
  keep := fun i h h' st k => st.at fun oi e => k it (by simp) oi e
  item := by
    intro X hP hw hK hc i pins s σ H E I hf st hg
    subst hP hw hK
    obtain ⟨⟨u, hd⟩, hi⟩ := hg
    obtain ⟨f0, f1, f2, f3, f4, f5⟩ := hf it (by simp)
    have raw : s.heap.DictRaw d es ep := ⟨o, (I.hok d _ hd).1, hx, hod⟩
    refine wpAny_pyNext_keys_item_raw st raw hi fun h' st' sb => ?_
    have I1 : Inv X pins σ H { s with heap := h' } := I.turned (t' := s.toks) (fun b ob hb e => (sb.2 b hb).trans e) f0 f1 f3 f4 f5
    obtain ⟨oi, e, c, dd⟩ := id st'
    obtain ⟨x, rx⟩ := hv es[i] (Array.getElem_mem hi)
    exact ⟨_, rfl, go_of (s := { s with heap := h' }) e c dd (by decide) ⟨x, H, I1, rx, ⟨rfl, es[i], Array.getElem?_eq_getElem hi, rx⟩, st', fun b hb => (hf b hb).1⟩⟩
  done := by
    intro X hP hw hK hc i pins s σ H E I hf st hg
    subst hP hw hK
    obtain ⟨⟨u, hd⟩, hi⟩ := hg
    obtain ⟨f0, f1, f2, f3, f4, f5⟩ := hf it (by simp)
    have raw : s.heap.DictRaw d es ep := ⟨o, (I.hok d _ hd).1, hx, hod⟩
    exact wpAny_pyNext_keys_end_raw (I.ok.hd hc) st raw hi fun h' eb => ⟨rfl, I.turned (t' := s.toks) (fun b ob hb e => eb b ob hb e) f0 f1 f3 f4 f5⟩
  self := fun A i s Q E st h => wpAny_pyIter_keyiter st h
def iKeysR (td : TE) : TI := fun σ H R => td σ H fun x H1 => ∃ d o, x = .ref d ∧ ((∃ kvs, H1 d = some (.frz o (.dK kvs)) ∧ R (Itk d o kvs) H1) ∨
  ∃ (F : Fx) (xs : List (NestedKey × Addr × Value)), H1 d = some (.frz o (rawD F d xs)) ∧ ∀ es : Array DictEntry, es.toList = xs.map (entryOfKey (nestedKind F.P F.w)) → R (ItRw d o es) H1)
theorem pi_keysR {tg e : Expr} {td : TE} (he : PE X e td) : PI X tg e (iKeysR td) := by
  refine ⟨fun pins s σ H R I h => ?_⟩
  refine thn (he.run pins s σ H _ I h) fun u s1 ⟨x, H1, I1, rx, d, o, ex, q⟩ => ?_
  subst ex
  obtain rfl : u = Value.ref d := rx
  rcases q with ⟨kvs, hd, q⟩ | ⟨F, xs, hd, q⟩
  · obtain ⟨hs, hgd, hx, es, ep, vs, hdt, hsz, kv, hm⟩ := I1.frzK hd
    refine iter_keys hs hgd hx hdt (pi_one (tk := s1.toks) I1 _ (turn_keys _ hdt) ⟨_, Heap.get?_push_size _ rfl, rfl, ?_⟩ q)
    rw [hsz] <;> rfl
  · obtain ⟨hgd, ⟨h1, hs, o', es, ep, h3, hx, hdt, h6⟩, _, _⟩ := I1.hok d _ hd
    rw [hgd] at h3
    cases h3
    refine iter_keys hs hgd hx hdt (pi_one (tk := s1.toks) I1 _ (turn_raw _ hx hdt fun e he => ?_) ⟨_, Heap.get?_push_size _ rfl, rfl, rfl⟩ (q es h6))
    have he' : e ∈ es.toList := by simpa using he
    rw [h6] at he'
    obtain ⟨y, _, rfl⟩ := List.mem_map.mp he'
    exact ⟨.ref y.2.1, rfl⟩
theorem DKR.getk {F : Fx} {H : Hp} : ∀ {ks : List (Key × V)} {kvs : List (D × D)} {i : Nat} {p : D × D}, DKR F H ks kvs → kvs[i]? = some p → ∃ q, ks[i]? = some q ∧ keyD q.1 p.1 ∧ DV F H q.2 p.2
  | _, _, _, _, .nil, e => by simp at e
  | _, _, 0, _, .cons r _, e => by simp at e; subst e; exact ⟨_, rfl, r⟩
  | _, _, i + 1, p, .cons _ t, e => by
    obtain ⟨v, h1, h2⟩ := DKR.getk (i := i) (p := p) t (by simpa using e)
    exact ⟨v, by simpa using h1, h2⟩
theorem DTR.getk {F : Fx} {H : Hp} : ∀ {xs : List (NestedKey × Addr × Value)} {kvs : List (D × D)} {i : Nat} {p : D × D}, DTR F H xs kvs → kvs[i]? = some p → ∃ q, xs[i]? = some q ∧ DV F H (.ref q.2.1) p.1
  | _, _, _, _, .nil, e => by simp at e
  | _, _, 0, _, .cons r _, e => by simp at e; subst e; exact ⟨_, rfl, r.2.2.2.1⟩
  | _, _, i + 1, p, .cons _ t, e => by
    obtain ⟨v, h1, h2⟩ := DTR.getk (i := i) (p := p) t (by simpa using e)
    exact ⟨v, by simpa using h1, h2⟩
theorem DWalk.keys {F : Fx} {H : Hp} {G : Gp} {d : Addr} {o : Obj} {ks : List (Key × V)} {kvs : List (D × D)} (hd : H d = some (.frz o (.dK ks))) (r : DKR F H ks kvs) : DWalk F H G (Itk d o ks) (kvs.map (·.1)) (fun _ => True) where
  go := fun i H1 G1 e k A g h => by
    rw [List.getElem?_map] at h
    obtain ⟨p, hp, rfl⟩ := Option.map_eq_some_iff.mp h
    obtain ⟨q, hq, hk, _⟩ := DKR.getk r hp
    have hi : i < ks.length := (List.getElem?_eq_some_iff.mp hq).1
    refine ⟨⟨k.frz d o _ hd, hi⟩, fun x H' y => ?_⟩
    obtain ⟨rfl, kk, v, h1, rfl⟩ := y
    rw [hq] at h1; cases h1
    exact ⟨.refl, A, keyD_dv hk⟩
  stop := fun i H1 G1 k A g h => ⟨k.frz d o _ hd, by rw [Paired.len r]; simpa using h⟩
theorem DWalk.keysT {F : Fx} {H : Hp} {G : Gp} (A0 : AbsG F H G) {d : Addr} {o : Obj} {u : HO} {xs : List (NestedKey × Addr × Value)} {es : Array DictEntry} {P : Program} {w : World} {kvs : List (D × D)} (hd : H d = some (.frz o u)) (he : es.toList = xs.map (entryOfKey (nestedKind P w))) (r : DTR F H xs kvs) :
    DWalk F H G (ItRw d o es) (kvs.map (·.1)) (fun _ => True) where
  go := fun i H1 G1 e k A g h => by
    rw [List.getElem?_map] at h
    obtain ⟨p, hp, rfl⟩ := Option.map_eq_some_iff.mp h
    obtain ⟨q, hq, hk⟩ := DTR.getk r hp
    have ei := entry_at he i
    rw [hq] at ei
    have hi : i < es.size := by
      have := (List.getElem?_eq_some_iff.mp hq).1
      rw [size_of_entries he]; exact this
    refine ⟨⟨⟨u, k.frz d o _ hd⟩, hi⟩, fun x H' y => ?_⟩
    obtain ⟨rfl, en, h1, h2⟩ := y
    rw [ei] at h1
    cases h1
    have ex : x = .ref q.2.1 := h2.inj (show RelV (.ref q.2.1) (.ref q.2.1) from rfl)
    subst ex
    exact ⟨.refl, A, hk.keep A0 k⟩
  stop := fun i H1 G1 k A g h => ⟨⟨u, k.frz d o _ hd⟩, by rw [size_of_entries he, Paired.len r]; simpa using h⟩
/-- the keys of a locked dict -/
def iK (t : TE2) : TI2 := fun δ G R => t δ G fun d G1 => match d with
  | .ref a => match G1 a with
    | some (.dic true _ kvs) => R (kvs.map (·.1)) (fun _ => True) G1
    | _ => False
  | _ => False
theorem pi_K {tg e : Expr} {t : TE2} (h : PE2 X e t) : PI2 X tg e (iK t) := (pi_keysR h).imp fun σ H R ⟨δ, G, R2, A, t, c⟩ =>
  ⟨δ, G, _, A, t, fun v H1 d G1 k1 A1 r1 q1 => by
    cases r1 with
    | ref a =>
      dsimp only at q1
      split at q1
      · rename_i tt kvs g
        have hm := A1 a _ g
        cases tt with
        | false =>
          obtain ⟨_, ⟨ks, rfl, r⟩, o, e⟩ := hm
          exact ⟨a, o, rfl, .inl ⟨ks, e, c _ _ _ H1 G1 k1 A1 (.keys e r) q1⟩⟩
        | true =>
          obtain ⟨_, ⟨xs, rfl, nd, r⟩, o, e⟩ := hm
          exact ⟨a, o, rfl, .inr ⟨X.fx, xs, e, fun es he => c _ _ _ H1 G1 k1 A1 (.keysT A1 e he r) q1⟩⟩
      · exact q1.elim
    | _ => exact q1.elim⟩
/-- a statement, an expression while the dict in slot i is locked -/
def lockG (G : Gp) (a : Addr) (t : Bool) (kvs : List (D × D)) : Gp := gput G a (.dic true t kvs)
def dLock (i : Nat) (u : TS2) : TS2 := fun D δ G => match slot δ i with
  | some (.ref a) => match G a with
    | some (.dic false t kvs) => u ⟨fun δ' G' => G' a = some (.dic true t kvs) ∧ D.nx δ' (gput G' a (.dic false t kvs)), fun d G' => G' a = some (.dic true t kvs) ∧ D.rt d (gput G' a (.dic false t kvs)),
        fun δ' G' => G' a = some (.dic true t kvs) ∧ D.bk δ' (gput G' a (.dic false t kvs)), fun δ' G' => G' a = some (.dic true t kvs) ∧ D.ct δ' (gput G' a (.dic false t kvs))⟩ δ (gput G a (.dic true t kvs))
    | _ => False
  | _ => False
def dLockE (i : Nat) (u : TE2) : TE2 := fun δ G Q => match slot δ i with
  | some (.ref a) => match G a with
    | some (.dic false t kvs) => u δ (gput G a (.dic true t kvs)) fun d G' => G' a = some (.dic true t kvs) ∧ Q d (gput G' a (.dic false t kvs))
    | _ => False
  | _ => False
/-- what holds tuples and the script stays -/
structure Tu (F : Fx) (H H' : Hp) : Prop where
  t : ∀ b xs, SqT F.K H b xs → SqT F.K H' b xs
  s : ∀ b xs, Sc F H b xs → Sc F H' b xs
theorem Tu.keep {F : Fx} {H H' : Hp} {G G' : Gp} (A : AbsG F H G) (k : Keep H G H' G') : Tu F H H' := ⟨fun _ _ h => SqT.keep A k h, fun _ _ h => h.keep k⟩
mutual
theorem DV.mono {F : Fx} {H H' : Hp} (ht : Tu F H H') : ∀ {v : V} {d : D}, DV F H v d → DV F H' v d
  | _, _, .non => .non
  | _, _, .bl b => .bl b
  | _, _, .int i => .int i
  | _, _, .str s => .str s
  | _, _, .tup h t => .tup (ht.t _ _ h) (DVs.mono ht t)
  | _, _, .ref a => .ref a
  | _, _, .cd h => .cd h
  | _, _, .scr h => .scr (ht.s _ _ h)
theorem DVs.mono {F : Fx} {H H' : Hp} (ht : Tu F H H') : ∀ {vs : List V} {ds : List D}, DVs F H vs ds → DVs F H' vs ds
  | _, _, .nil => .nil
  | _, _, .cons h t => .cons (DV.mono ht h) (DVs.mono ht t)
end
theorem DKR.mono {F : Fx} {H H' : Hp} (ht : Tu F H H') {ks : List (Key × V)} {kvs : List (D × D)} (h : DKR F H ks kvs) : DKR F H' ks kvs := Paired.mapP h fun _ _ z => ⟨z.1, z.2.mono ht⟩
theorem DTR.mono {F : Fx} {H H' : Hp} (ht : Tu F H H') {ks : List (NestedKey × Addr × Value)} {kvs : List (D × D)} (h : DTR F H ks kvs) : DTR F H' ks kvs :=
  Paired.mapP h fun _ _ ⟨z1, z2, z3, z4, v, z5, z6⟩ => ⟨z1, z2, z3, z4.mono ht, v, z5, z6.mono ht⟩
theorem MOk.mono {F : Fx} {H H' : Hp} (ht : Tu F H H') {a : Addr} {m : MO} (h : MOk F H a m) (e : H' a = H a) : MOk F H' a m := by
  have lq : ∀ {l u}, lk l H a u → lk l H' a u := fun {l u} h => by unfold lk at *; rw [e]; exact h
  match m, h with
  | .lst l ds, ⟨vs, r, h⟩ => exact ⟨vs, r.mono ht, lq h⟩
  | .dic l false kvs, ⟨u, ⟨ks, z, r⟩, h⟩ => exact ⟨u, ⟨ks, z, DKR.mono ht r⟩, lq h⟩
  | .dic l true kvs, ⟨u, ⟨xs, z, nd, r⟩, h⟩ => exact ⟨u, ⟨xs, z, nd, DTR.mono ht r⟩, lq h⟩
  | .tpl ds, ⟨vs, o, r, h, n⟩ => exact ⟨vs, o, r.mono ht, by rw [e]; exact h, n⟩
theorem SV.mono {F : Fx} {H H' : Hp} (ht : Tu F H H') {σ : L2.St} {δ : St2} (h : SV F H σ δ) : SV F H' σ δ := Paired.mapP h fun x d z => by
  cases d with
  | none => trivial
  | some d => obtain ⟨v, e, r⟩ := z; exact ⟨v, e, r.mono ht⟩
/-- a dict is locked: what stands there, and how it is unlocked -/
structure Lk (F : Fx) (H : Hp) (G : Gp) (a : Addr) (t : Bool) (kvs : List (D × D)) (u : HO) : Prop where
  at_ : H a = some u
  mu : Mut (some u)
  keep : ∀ od, Keep H G (upd H a (.frz od u)) (gput G a (.dic true t kvs))
  abs : ∀ od, AbsG F (upd H a (.frz od u)) (gput G a (.dic true t kvs))
  there : ∀ od H' G', Keep (upd H a (.frz od u)) (gput G a (.dic true t kvs)) H' G' → H' a = some (.frz od u)
  back : ∀ od H' G', Keep (upd H a (.frz od u)) (gput G a (.dic true t kvs)) H' G' → Keep H G (upd H' a u) (gput G' a (.dic false t kvs))
  tups : ∀ od H' G', Keep (upd H a (.frz od u)) (gput G a (.dic true t kvs)) H' G' → Tu F H' (upd H' a u)
  abs' : ∀ od H' G', Keep (upd H a (.frz od u)) (gput G a (.dic true t kvs)) H' G' → AbsG F H' G' → G' a = some (.dic true t kvs) → AbsG F (upd H' a u) (gput G' a (.dic false t kvs))
theorem lock_in {F : Fx} {H : Hp} {G : Gp} (A : AbsG F H G) {a : Addr} {t : Bool} {kvs : List (D × D)} (g : G a = some (.dic false t kvs)) : ∃ u, Lk F H G a t kvs u := by
  have hm := A a _ g
  have key : ∀ u, H a = some u → (∀ ob z, u ≠ .frz ob z) → (∀ vs, u ≠ .tup vs ∧ u ≠ .lst vs) → Mut (some u) → (∀ (H' : Hp) o, Tu F H H' → H' a = some (.frz o u) → MOk F H' a (.dic true t kvs)) →
      (∀ (H' H2 : Hp) od, Tu F H' H2 → H' a = some (.frz od u) → MOk F H' a (.dic true t kvs) → H2 a = some u → MOk F H2 a (.dic false t kvs)) → Lk F H G a t kvs u := by
    intro u hu nf nt mu mk mb
    have nfH : ∀ ob z, H a ≠ some (.frz ob z) := fun ob z e => by rw [hu] at e; exact nf ob z (Option.some.inj e)
    have kp : ∀ od, Keep H G (upd H a (.frz od u)) (gput G a (.dic true t kvs)) := fun od => Keep.write A g nfH
    have th : ∀ od H' G', Keep (upd H a (.frz od u)) (gput G a (.dic true t kvs)) H' G' → H' a = some (.frz od u) := fun od H' G' k => k.frz a od u upd_same
    have tp : ∀ od H' G', Keep (upd H a (.frz od u)) (gput G a (.dic true t kvs)) H' G' → Tu F H' (upd H' a u) := fun od H' G' k => by
      have e := th od H' G' k
      refine ⟨fun b xs hs => ?_, fun b xs hs => ?_⟩
      · rcases hs with (h | ⟨o, h⟩) | h
        · have hb : b ≠ a := fun z => by rw [z, e] at h; cases h
          exact .inl (.inl (by rw [upd_ne hb]; exact h))
        · have hb : b ≠ a := fun z => by rw [z, e] at h; cases h; exact (nt _).1 rfl
          exact .inl (.inr ⟨o, by rw [upd_ne hb]; exact h⟩)
        · exact .inr h
      · rcases hs with ⟨o, h⟩ | h
        · have hb : b ≠ a := fun z => by rw [z, e] at h; cases h; exact (nt _).2 rfl
          exact .inl ⟨o, by rw [upd_ne hb]; exact h⟩
        · exact .inr h
    refine ⟨hu, mu, kp, fun od => A.put (kp od) (fun b hb => upd_ne hb) (mk _ od (Tu.keep A (kp od)) upd_same), th, fun od H' G' k => ⟨fun b o e n => ?_, fun b o v e => ?_⟩, tp, fun od H' G' k A' ga => fun b m e => ?_⟩
    · have hb : b ≠ a := fun z => by rw [z, g] at n; cases n
      obtain ⟨h1, h2⟩ := k.old b o (by rw [upd_ne hb]; exact e) (by rw [gput_ne hb]; exact n)
      exact ⟨by rw [upd_ne hb]; exact h1, by rw [gput_ne hb]; exact h2⟩
    · have hb : b ≠ a := fun z => nfH o v (by rw [← z]; exact e)
      rw [upd_ne hb]
      exact k.frz b o v (by rw [upd_ne hb]; exact e)
    · by_cases hb : b = a
      · subst hb
        rw [gput_same] at e; cases e
        exact mb H' _ od (tp od H' G' k) (th od H' G' k) (A' b _ ga) upd_same
      · rw [gput_ne hb] at e
        exact (A' b m e).mono (tp od H' G' k) (upd_ne hb)
  cases t with
  | false =>
    obtain ⟨_, ⟨ks, rfl, r⟩, e⟩ := hm
    refine ⟨.dK ks, key _ e (fun _ _ z => by cases z) (fun _ => ⟨fun z => (by cases z), fun z => (by cases z)⟩) True.intro (fun H' o ht e' => ⟨_, ⟨ks, rfl, DKR.mono ht r⟩, o, e'⟩) fun H' H2 od ht e1 hm' e2 => ?_⟩
    obtain ⟨_, ⟨ks', rfl, r'⟩, o, e3⟩ := hm'
    rw [e1] at e3; cases e3
    exact ⟨_, ⟨_, rfl, DKR.mono ht r'⟩, e2⟩
  | true =>
    obtain ⟨_, ⟨xs, rfl, nd, r⟩, e⟩ := hm
    refine ⟨rawD F a xs, key _ e (fun _ _ z => by unfold rawD at z; cases z) (fun _ => ⟨fun z => (by unfold rawD at z; cases z), fun z => (by unfold rawD at z; cases z)⟩) True.intro (fun H' o ht e' => ⟨_, ⟨xs, rfl, nd, DTR.mono ht r⟩, o, e'⟩) fun H' H2 od ht e1 hm' e2 => ?_⟩
    obtain ⟨_, ⟨xs', hz, nd', r'⟩, o, e3⟩ := hm'
    rw [e1] at e3
    cases e3
    exact ⟨_, ⟨xs', hz, nd', DTR.mono ht r'⟩, e2⟩
theorem ps_lock2 (i : Nat) {st : Stmt} {u : TS2} (h : PS2 X st u) : PS2 X st (dLock i u) := (ps_lock h).imp fun D1 σ H ⟨δ, G, D2, A, t, c⟩ => by
  unfold dLock at t
  split at t
  · rename_i a ea
    split at t
    · rename_i tt kvs g
      obtain ⟨uo, L⟩ := lock_in A.hp g
      refine ⟨a, uo, L.at_, L.mu, fun od => ⟨δ, _, _, A.to (L.keep od) (L.abs od), t, ?_⟩⟩
      have ab : ∀ {σ' : L2.St} {H' : Hp} {δ' : St2} {G' : Gp}, Keep (upd H a (.frz od uo)) (gput G a (.dic true tt kvs)) H' G' → Abs X.fx H' σ' δ' G' → G' a = some (.dic true tt kvs) → Abs X.fx (upd H' a uo) σ' δ' (gput G' a (.dic false tt kvs)) := fun k A' ga =>
        ⟨SV.mono (L.tups od _ _ k) A'.sv, L.abs' od _ _ k A'.hp ga⟩
      refine ⟨fun σ' H' δ' G' k A' q => ⟨L.there od H' G' k, c.1 _ _ _ _ (L.back od H' G' k) (ab k A' q.1) q.2⟩, fun v H' d G' k A' r q => ⟨L.there od H' G' k, c.2.1 _ _ _ _ (L.back od H' G' k) (L.abs' od _ _ k A' q.1) (r.mono (L.tups od _ _ k)) q.2⟩,
        fun σ' H' δ' G' k A' q => ⟨L.there od H' G' k, c.2.2.1 _ _ _ _ (L.back od H' G' k) (ab k A' q.1) q.2⟩, fun σ' H' δ' G' k A' q => ⟨L.there od H' G' k, c.2.2.2 _ _ _ _ (L.back od H' G' k) (ab k A' q.1) q.2⟩⟩
    · exact t.elim
  · exact t.elim
end SD

set_option Elab.async false
set_option linter.all false
set_option maxRecDepth 100000
namespace SD
open PySem PySem.Spec PyProof.Rows L2
variable {X : Cx}

/-! ## 15. comprehensions -/
def lcW (g : TG2) (tt : TT2) (te : TE2) (C : Gp → Prop) (δw : St2) (Q : List D → Gp → Prop) : List D → List D → Gp → Prop
  | [], acc => fun G => C G ∧ Q acc G
  | x :: xs, acc => fun G => C G ∧ g x δw G fun δ2 G2 => tt δ2 G2 fun b G3 => if b = true then te δ2 G3 fun y G4 => lcW g tt te C δw Q xs (acc ++ [y]) G4 else lcW g tt te C δw Q xs acc G3
def dLc (ti : TI2) (g : TG2) (tt : TT2) (te : TE2) (vs : List Nat) : TA2 := fun δ G Q => ti δ G fun ds C G1 => ds.length ≤ sizeLine ∧ lcW g tt te C (wipe2 δ vs) Q ds [] G1
theorem off_tup {F : Fx} {H : Hp} {a : Addr} {u o : HO} (e : H a = some u) (h1 : ∀ ob z, u ≠ .frz ob z) (h2 : ∀ vs, u ≠ .tup vs) : Tu F H (upd H a o) where
  t := fun b xs hs => by
    rcases hs with (h | ⟨o, h⟩) | h
    · have hb : b ≠ a := fun z => by rw [z, e] at h; exact h2 _ (Option.some.inj h)
      exact .inl (.inl (by rw [upd_ne hb]; exact h))
    · have hb : b ≠ a := fun z => by rw [z, e] at h; exact h1 _ _ (Option.some.inj h)
      exact .inl (.inr ⟨o, by rw [upd_ne hb]; exact h⟩)
    · exact .inr h
  s := fun b xs hs => by
    rcases hs with ⟨o, h⟩ | h
    · have hb : b ≠ a := fun z => by rw [z, e] at h; exact h1 _ _ (Option.some.inj h)
      exact .inl ⟨o, by rw [upd_ne hb]; exact h⟩
    · exact .inr h
theorem AbsG.off {F : Fx} {H : Hp} {G : Gp} (A : AbsG F H G) {a : Addr} {u o : HO} (e : H a = some u) (n : G a = none) (h1 : ∀ ob z, u ≠ .frz ob z) (h2 : ∀ vs, u ≠ .tup vs) : AbsG F (upd H a o) G := fun b m g =>
  (A b m g).mono (off_tup e h1 h2) (upd_ne fun z => by rw [z, n] at g; cases g)
theorem Keep.off {H H1 : Hp} {G G1 : Gp} (k : Keep H G H1 G1) {a : Addr} {u o : HO} (f : H a = none) (e : H1 a = some u) (h1 : ∀ ob z, u ≠ .frz ob z) : Keep H G (upd H1 a o) G1 :=
  ⟨fun b v z n => by
    have hb : b ≠ a := ne_of_none z f
    rw [upd_ne hb]; exact k.old b v z n, fun b v w z => by
    have hb : b ≠ a := ne_of_none z f
    rw [upd_ne hb]; exact k.frz b v w z⟩
theorem lc_up {F : Fx} {ti : TI2} {ns vs : List Nat} {g : TG2} {tt : TT2} {te : TE2} (hsub : ∀ n ∈ ns, n ∈ vs) {σ : L2.St} {H : Hp} {Q : VK} (q : upL F (dLc ti g tt te vs) σ H Q) : tLc (upI F ti) (upG F ns g) (upT F tt) (up F te) vs σ H Q := by
  obtain ⟨δ, G, Q2, A, t, c⟩ := q
  refine ⟨δ, G, _, A, t, fun J ds C H1 G1 k1 A1 w q1 => ?_⟩
  obtain ⟨hlen, q1⟩ := q1
  intro Da hD
  refine ⟨fun i m H' => ∃ G' acc us, Keep H1 G1 H' G' ∧ AbsG F H' G' ∧ H' Da = some (.lst us) ∧ G' Da = none ∧ DVs F H' us acc ∧ acc.length ≤ i ∧ m = ds.length - i ∧ i ≤ ds.length ∧ lcW g tt te C (wipe2 δ vs) Q2 (ds.drop i) acc G',
    ⟨ds.length, G1, [], [], .lay hD, A1.lay hD, upd_same, A1.free hD, .nil, Nat.le_refl _, by omega, Nat.zero_le _, q1⟩, ?_⟩
  rintro i m H2 ⟨G2, acc, us, k2, A2, hD2, n2, r2, hl, rfl, hi, q2⟩
  by_cases hlt : i < ds.length
  · obtain ⟨d, e1, e2⟩ := drop_get hlt
    rw [e2] at q2
    obtain ⟨cg, q2⟩ := q2
    obtain ⟨go, yl⟩ := w.go i H2 G2 d k2 A2 cg e1
    refine .inr ⟨go, fun H' => ∃ G' acc us, Keep H1 G1 H' G' ∧ AbsG F H' G' ∧ H' Da = some (.lst us) ∧ G' Da = none ∧ DVs F H' us acc ∧ acc.length ≤ i + 1 ∧ lcW g tt te C (wipe2 δ vs) Q2 (ds.drop (i + 1)) acc G',
      fun H' ⟨G', acc, us, a1, a2, a3, a4, a5, a6, a7⟩ => ⟨ds.length - (i + 1), by omega, G', acc, us, a1, a2, a3, a4, a5, a6, rfl, hlt, a7⟩, fun x H3 y => ?_⟩
    obtain ⟨k3, A3, r3⟩ := yl x H3 y
    have ab : Abs F H3 (wipe σ vs) (wipe2 δ vs) G2 := ⟨SV.wipe (((A.sv.keep A.hp k1).keep A1 k2).keep A2 k3) vs, A3⟩
    refine ⟨d, wipe2 δ vs, G2, _, ab, r3, q2, fun σ4 H4 δ4 G4 k4 A4 wp q4 => ⟨?_, ?_⟩⟩
    · have e0 : ∀ (l : List Nat), wipe (wipe σ vs) l = wipe (wipe σ vs) l := fun _ => rfl
      have := wp vs hsub
      rw [this]
      have idem : ∀ (l m : List Nat), (∀ n ∈ l, n ∈ m) → wipe (wipe σ m) l = wipe σ m := by
        intro l
        induction l with
        | nil => intro m _; rfl
        | cons a l ih =>
          intro m hm
          show (wipe (wipe σ m) l).set a none = wipe σ m
          rw [ih m fun n hn => hm n (List.mem_cons_of_mem _ hn)]
          have ha := hm a List.mem_cons_self
          have fix : ∀ (m : List Nat), a ∈ m → (wipe σ m).set a none = wipe σ m := by
            intro m
            induction m with
            | nil => intro z; cases z
            | cons b m ih2 =>
              intro z
              show ((wipe σ m).set b none).set a none = (wipe σ m).set b none
              by_cases hb : a = b
              · subst hb; rw [List.set_set]
              · have z' : a ∈ m := (List.mem_cons.mp z).resolve_left hb
                rw [List.set_comm _ _ (Ne.symm hb), ih2 z']
          exact fix m ha
      exact idem vs vs fun _ h => h
    · refine ⟨δ4, G4, _, A4, q4, fun b H5 G5 k5 A5 q5 => ?_⟩
      have k25 := (k3.trans k4).trans k5
      obtain ⟨hD5, n5⟩ := k25.old Da _ hD2 n2
      cases b with
      | true =>
        simp only [if_true] at q5 ⊢
        refine ⟨δ4, G5, _, A4.to k5 A5, q5, fun yv H6 yd G6 k6 A6 r6 q6 => ?_⟩
        obtain ⟨hD6, n6⟩ := k6.old Da _ hD5 n5
        have k26 := k25.trans k6
        have f1 : H1 Da = none := hD
        have hr6 : DVs F H6 us acc := r2.keep A2 k26
        refine ⟨us, hD6, by rw [r2.length]; omega, G6, acc ++ [yd], us ++ [yv], (k2.trans k26).off f1 hD6 (fun _ _ z => by cases z), A6.off hD6 n6 (fun _ _ z => by cases z) (fun _ z => by cases z), upd_same, n6, ?_, by simp; omega, q6⟩
        exact (hr6.append (.one r6)).mono (off_tup hD6 (fun _ _ z => by cases z) (fun _ z => by cases z))
      | false =>
        simp only [Bool.false_eq_true, if_false] at q5 ⊢
        exact ⟨G5, acc, us, k2.trans k25, A5, hD5, n5, r2.keep A2 k25, by omega, q5⟩
  · have e : i = ds.length := by omega
    subst e
    rw [List.drop_length] at q2
    refine .inl ⟨w.stop _ H2 G2 k2 A2 q2.1 (Nat.le_refl _), c Da us H2 acc G2 (k1.trans k2) A2 n2 ?_ hD2 r2 q2.2⟩
    exact k1.fr hD
def dYes : TT2 := fun _ G Q => Q true G
theorem pts_nil2 : PTs X [] (upT X.fx dYes) := ⟨fun pins s σ H Q I ⟨δ, G, Q2, A, t, c⟩ => (pts_nil (X := X)).run pins s σ H Q I (c true H G .refl A.hp t)⟩
theorem pts_one2 {c : Expr} {t : TT2} (h : PT2 X c t) : PTs X [c] (upT X.fx t) := pts_one h
section
variable {elt tg iter : Expr} {ifs : List Expr} {scope : Scope} {own : List (Str × Nat)} {pos : Pos} {ti : TI2} {ns : List Nat} {g : TG2} {tt : TT2} {te : TE2}
theorem pl_lc (own : List (Str × Nat)) (hc : X.calm = true) (hN : X.N.Nodup) (hi : PI2 X tg iter ti) (ok : BlkOk X.N X.env.scope scope own)
    (hg : ∀ (s : Shared) (H : Hp) (C : Addr) (cl : List (Str × Addr)) (fp : List Addr), PG2 (X.blk s H scope (compEnvC scope cl C X.env) fp) tg ns g) (ht : ∀ (s : Shared) (H : Hp) (C : Addr) (cl : List (Str × Addr)) (fp : List Addr), PTs (X.blk s H scope (compEnvC scope cl C X.env) fp) ifs (upT X.fx tt))
    (he : ∀ (s : Shared) (H : Hp) (C : Addr) (cl : List (Str × Addr)) (fp : List Addr), PE2 (X.blk s H scope (compEnvC scope cl C X.env) fp) elt te) (hsub : ∀ n ∈ ns, n ∈ own.map (·.2) := by decide) (hs : ∀ x, foldedSetIterable iter X.env x = pure x := by intro _; rfl) :
    PL2 X (.ListComp elt [⟨tg, iter, ifs, 0⟩] scope pos) (dLc ti g tt te (own.map (·.2))) :=
  (pe_lc hc hN hi ok hg ht he hs).imp fun _ _ _ q => lc_up hsub q
theorem ps_setLc2 (i : Nat) (own : List (Str × Nat)) {y : Str} {py spos : Pos} (hc : X.calm = true) (hN : X.N.Nodup) (hi : PI2 X tg iter ti) (ok : BlkOk X.N X.env.scope scope own)
    (hg : ∀ (s : Shared) (H : Hp) (C : Addr) (cl : List (Str × Addr)) (fp : List Addr), PG2 (X.blk s H scope (compEnvC scope cl C X.env) fp) tg ns g) (ht : ∀ (s : Shared) (H : Hp) (C : Addr) (cl : List (Str × Addr)) (fp : List Addr), PTs (X.blk s H scope (compEnvC scope cl C X.env) fp) ifs (upT X.fx tt))
    (he : ∀ (s : Shared) (H : Hp) (C : Addr) (cl : List (Str × Addr)) (fp : List Addr), PE2 (X.blk s H scope (compEnvC scope cl C X.env) fp) elt te) (hy : X.N[i]? = some y := by rfl) (hyl : X.env.scope.names.lookup y = some .local := by rfl)
    (hsw : swapsWith (.ListComp elt [⟨tg, iter, ifs, 0⟩] scope pos) (some (.Name y py)) spos.line X.env = pure true := by exact sw_true rfl rfl rfl (by decide +kernel)) (hsub : ∀ n ∈ ns, n ∈ own.map (·.2) := by decide) (hs : ∀ x, foldedSetIterable iter X.env x = pure x := by intro _; rfl) :
    PS2 X (.Assign [.Name y py] (.ListComp elt [⟨tg, iter, ifs, 0⟩] scope pos) spos) (dSet i (dMat (dLc ti g tt te (own.map (·.2))))) :=
  (ps_setLc hc hN hy hyl hsw hi ok hg ht he hs).imp fun D1 σ H ⟨δ, G, D2, A, t, c⟩ => lc_up hsub ⟨δ, G, _, A, t, fun a vs H' ds G' k A' n f e r q =>
    c.1 _ H' _ _ (k.track f) ⟨SV.set (.ref a) i (A.sv.keep A.hp k), A'.track (show MOk _ _ _ (.lst false ds) from ⟨vs, r, e⟩)⟩ (q a n)⟩
end

/-! ### dicts that are not yet told of -/
abbrev TD2 := St2 → Gp → (List (D × D) → Gp → Prop) → Prop
def DicX (F : Fx) (H : Hp) (a : Addr) (kvs : List (D × D)) (u : HO) : Bool → Prop
  | false => DicK F H kvs u
  | true => DicT F H a kvs u
def upD (F : Fx) (b : Bool) (t : TD2) : TE := fun σ H Q => ∃ δ G Q2, Abs F H σ δ G ∧ t δ G Q2 ∧ ∀ a u H' kvs G', Keep H G H' G' → AbsG F H' G' → G' a = none → Fr H G a → H' a = some u → DicX F H' a kvs u b → Q2 kvs G' → Q (.ref a) H'
abbrev PD2 (X : Cx) (b : Bool) (e : Expr) (t : TD2) : Prop := PE X e (upD X.fx b t)
def dMatD (b : Bool) (t : TD2) : TE2 := fun δ G Q => t δ G fun kvs G1 => ∀ p, G1 p = none → Q (.ref p) (gput G1 p (.dic false b kvs))
theorem DicX.mok {F : Fx} {H : Hp} {a : Addr} {kvs : List (D × D)} {u : HO} {b : Bool} (e : H a = some u) (h : DicX F H a kvs u b) : MOk F H a (.dic false b kvs) := by
  cases b with
  | false => exact ⟨u, h, e⟩
  | true => exact ⟨u, h, e⟩
theorem pd_matD {b : Bool} {e : Expr} {t : TD2} (h : PD2 X b e t) : PE2 X e (dMatD b t) := h.imp fun σ H Q ⟨δ, G, Q2, A, t, c⟩ =>
  ⟨δ, G, _, A, t, fun a u H' kvs G' k A' n f e r q => c _ H' _ _ (k.track f) (A'.track (r.mok e)) (.ref a) (q a n)⟩
def dNil0 : TD2 := fun _ G Q => Q [] G
theorem pD_nil {pos : Pos} (b : Bool) : PD2 X b (.Dict [] [] pos) dNil0 := by
  cases b with
  | false => exact pe_dnewK.imp fun σ H Q ⟨δ, G, Q2, A, t, c⟩ => fun p hp => c p _ _ [] G (.lay hp) (A.hp.lay hp) (A.hp.free hp) (Keep.refl.fr hp) upd_same ⟨[], rfl, .nil⟩ t
  | true =>
    refine ⟨fun pins s σ H Q I ⟨δ, G, Q2, A, t, c⟩ => ?_⟩
    have hp : H s.heap.objs.size = none := I.hok.fresh (Nat.le_refl _)
    have hs : (s.heap.objs.size == sysModules) = false := beq_eq_false_iff_ne.mpr (Ne.symm (Nat.ne_of_lt I.big))
    exact wpAny_Dict_empty ⟨.ref s.heap.objs.size, _, I.laid (a := s.heap.objs.size) (o := rawD X.fx s.heap.objs.size []) (t' := s.toks) (fun _ _ q => Heap.get?_push_of_some _ q) (Nat.le_refl _) (rawD_ok (F := X.fx) (Nat.zero_le _) hs (Heap.DictOfH.new s.heap)), rfl,
      c _ _ _ [] G (.lay hp) (A.hp.lay hp) (A.hp.free hp) (Keep.refl.fr hp) upd_same ⟨[], rfl, List.nodup_nil, .nil⟩ t⟩
/-- {k: v for ..}, whole numbers and texts as keys -/
noncomputable def dcW (b : Bool) (g : TG2) (tt : TT2) (tk tv : TE2) (C : Gp → Prop) (δw : St2) (Q : List (D × D) → Gp → Prop) : List D → List (D × D) → Gp → Prop
  | [], acc => fun G => C G ∧ Q acc G
  | x :: xs, acc => fun G => C G ∧ g x δw G fun δ2 G2 => tt δ2 G2 fun c G3 => if c = true then tk δ2 G3 fun y G4 => tv δ2 G4 fun z G5 => KeyC b y ∧ dcW b g tt tk tv C δw Q xs (dput acc y z) G5 else dcW b g tt tk tv C δw Q xs acc G3
noncomputable def dDc (b : Bool) (ti : TI2) (g : TG2) (tt : TT2) (tk tv : TE2) (vs : List Nat) : TD2 := fun δ G Q => ti δ G fun ds C G1 => ds.length ≤ sizeLine ∧ dcW b g tt tk tv C (wipe2 δ vs) Q ds [] G1
theorem wipe_idem {σ : L2.St} : ∀ (l m : List Nat), (∀ n ∈ l, n ∈ m) → wipe (wipe σ m) l = wipe σ m
  | [], _, _ => rfl
  | a :: l, m, hm => by
    show (wipe (wipe σ m) l).set a none = wipe σ m
    rw [wipe_idem l m fun n hn => hm n (List.mem_cons_of_mem _ hn)]
    have fix : ∀ (m : List Nat), a ∈ m → (wipe σ m).set a none = wipe σ m := by
      intro m
      induction m with
      | nil => intro z; cases z
      | cons b m ih2 =>
        intro z
        show ((wipe σ m).set b none).set a none = (wipe σ m).set b none
        by_cases hb : a = b
        · subst hb; rw [List.set_set]
        · have z' : a ∈ m := (List.mem_cons.mp z).resolve_left hb
          rw [List.set_comm _ _ (Ne.symm hb), ih2 z']
    exact fix m (hm a List.mem_cons_self)
theorem dc_up {F : Fx} {ti : TI2} {ns vs : List Nat} {g : TG2} {tt : TT2} {tk tv : TE2} (hsub : ∀ n ∈ ns, n ∈ vs) {σ : L2.St} {H : Hp} {Q : VK} (q : upD F false (dDc false ti g tt tk tv vs) σ H Q) : tDc (upI F ti) (upG F ns g) (upT F tt) (up F tk) (up F tv) vs σ H Q := by
  obtain ⟨δ, G, Q2, A, t, c⟩ := q
  refine ⟨δ, G, _, A, t, fun J ds C H1 G1 k1 A1 w q1 => ?_⟩
  obtain ⟨hlen, q1⟩ := q1
  intro Da hD
  refine ⟨fun i m H' => ∃ G' acc us, Keep H1 G1 H' G' ∧ AbsG F H' G' ∧ H' Da = some (.dK us) ∧ G' Da = none ∧ DKR F H' us acc ∧ acc.length ≤ i ∧ m = ds.length - i ∧ i ≤ ds.length ∧ dcW false g tt tk tv C (wipe2 δ vs) Q2 (ds.drop i) acc G',
    ⟨ds.length, G1, [], [], .lay hD, A1.lay hD, upd_same, A1.free hD, .nil, Nat.le_refl _, by omega, Nat.zero_le _, q1⟩, ?_⟩
  rintro i m H2 ⟨G2, acc, us, k2, A2, hD2, n2, r2, hl, rfl, hi, q2⟩
  by_cases hlt : i < ds.length
  · obtain ⟨d, e1, e2⟩ := drop_get hlt
    rw [e2] at q2
    obtain ⟨cg, q2⟩ := q2
    obtain ⟨go, yl⟩ := w.go i H2 G2 d k2 A2 cg e1
    refine .inr ⟨go, fun H' => ∃ G' acc us, Keep H1 G1 H' G' ∧ AbsG F H' G' ∧ H' Da = some (.dK us) ∧ G' Da = none ∧ DKR F H' us acc ∧ acc.length ≤ i + 1 ∧ dcW false g tt tk tv C (wipe2 δ vs) Q2 (ds.drop (i + 1)) acc G',
      fun H' ⟨G', acc, us, a1, a2, a3, a4, a5, a6, a7⟩ => ⟨ds.length - (i + 1), by omega, G', acc, us, a1, a2, a3, a4, a5, a6, rfl, hlt, a7⟩, fun x H3 y => ?_⟩
    obtain ⟨k3, A3, r3⟩ := yl x H3 y
    have ab : Abs F H3 (wipe σ vs) (wipe2 δ vs) G2 := ⟨SV.wipe (((A.sv.keep A.hp k1).keep A1 k2).keep A2 k3) vs, A3⟩
    refine ⟨d, wipe2 δ vs, G2, _, ab, r3, q2, fun σ4 H4 δ4 G4 k4 A4 wp q4 => ⟨?_, ?_⟩⟩
    · rw [wp vs hsub]; exact wipe_idem vs vs fun _ h => h
    · refine ⟨δ4, G4, _, A4, q4, fun b H5 G5 k5 A5 q5 => ?_⟩
      have k25 := (k3.trans k4).trans k5
      obtain ⟨hD5, n5⟩ := k25.old Da _ hD2 n2
      cases b with
      | true =>
        simp only [if_true] at q5 ⊢
        refine ⟨δ4, G5, _, A4.to k5 A5, q5, fun yv H6 yd G6 k6 A6 r6 q6 => ?_⟩
        refine ⟨δ4, G6, _, (A4.to k5 A5).to k6 A6, q6, fun zv H7 zd G7 k7 A7 r7 q7 => ?_⟩
        obtain ⟨kc, q7⟩ := q7
        obtain ⟨kk, hk⟩ := keyD_of kc
        have ey := keyD_rel hk r6
        have k57 := k6.trans k7
        obtain ⟨hD7, n7⟩ := k57.old Da _ hD5 n5
        have k27 := k25.trans k57
        have f1 : H1 Da = none := hD
        have r2' : DKR F H7 us acc := Paired.mapP r2 fun _ _ z => ⟨z.1, z.2.keep A2 k27⟩
        have hput := DKR.put r2' hk r7
        refine ⟨us, kk, ey, hD7, by rw [Paired.len r2]; omega, G7, dput acc yd zd, putK us kk zv, (k2.trans k27).off f1 hD7 (fun _ _ z => by cases z), A7.off hD7 n7 (fun _ _ z => by cases z) (fun _ z => by cases z), upd_same, n7, ?_, ?_, q7⟩
        · exact DKR.mono (off_tup hD7 (fun _ _ z => by cases z) (fun _ z => by cases z)) hput
        · have := dput_length acc yd zd; omega
      | false =>
        simp only [Bool.false_eq_true, if_false] at q5 ⊢
        exact ⟨G5, acc, us, k2.trans k25, A5, hD5, n5, Paired.mapP r2 fun _ _ z => ⟨z.1, z.2.keep A2 k25⟩, by omega, q5⟩
  · have e : i = ds.length := by omega
    subst e
    rw [List.drop_length] at q2
    exact .inl ⟨w.stop _ H2 G2 k2 A2 q2.1 (Nat.le_refl _), c Da _ H2 acc G2 (k1.trans k2) A2 n2 (k1.fr hD) hD2 ⟨us, rfl, r2⟩ q2.2⟩
section
variable {kx vx tg iter : Expr} {ifs : List Expr} {scope : Scope} {pos : Pos} {ti : TI2} {ns : List Nat} {g : TG2} {tt : TT2} {tk tv : TE2}
theorem pD_dc (own : List (Str × Nat)) (hc : X.calm = true) (hN : X.N.Nodup) (hi : PI2 X tg iter ti) (ok : BlkOk X.N X.env.scope scope own)
    (hg : ∀ (s : Shared) (H : Hp) (C : Addr) (cl : List (Str × Addr)) (fp : List Addr), PG2 (X.blk s H scope (compEnvC scope cl C X.env) fp) tg ns g) (ht : ∀ (s : Shared) (H : Hp) (C : Addr) (cl : List (Str × Addr)) (fp : List Addr), PTs (X.blk s H scope (compEnvC scope cl C X.env) fp) ifs (upT X.fx tt))
    (hk : ∀ (s : Shared) (H : Hp) (C : Addr) (cl : List (Str × Addr)) (fp : List Addr), PE2 (X.blk s H scope (compEnvC scope cl C X.env) fp) kx tk) (he : ∀ (s : Shared) (H : Hp) (C : Addr) (cl : List (Str × Addr)) (fp : List Addr), PE2 (X.blk s H scope (compEnvC scope cl C X.env) fp) vx tv)
    (hsub : ∀ n ∈ ns, n ∈ own.map (·.2) := by decide) (hs : ∀ x, foldedSetIterable iter X.env x = pure x := by intro _; rfl) :
    PD2 X false (.DictComp kx vx [⟨tg, iter, ifs, 0⟩] scope pos) (dDc false ti g tt tk tv (own.map (·.2))) :=
  (pe_dc hc hN hi ok hg ht hk he hs).imp fun _ _ _ q => dc_up hsub q
end
end SD

set_option Elab.async false
set_option linter.all false
set_option maxRecDepth 100000
namespace L2
open PySem PySem.Spec PyProof.Rows
variable {X : Cx}
/-- name = {..} of a for, on one line, the name a local -/
theorem ps_setDc {i : Nat} {y : Str} {py : Pos} {kx vx tg iter : Expr} {ifs : List Expr} {scope : Scope} {own : List (Str × Nat)} {pos spos : Pos} {wi : TI} {g : TG} {tt : TT} {tk tv : TE} (hc : X.calm = true) (hN : X.N.Nodup) (hy : X.N[i]? = some y) (hyl : X.env.scope.names.lookup y = some .local)
    (hsw : swapsWith (.DictComp kx vx [⟨tg, iter, ifs, 0⟩] scope pos) (some (.Name y py)) spos.line X.env = pure true) (hi : PI X tg iter wi) (ok : BlkOk X.N X.env.scope scope own)
    (hg : ∀ (s : Shared) (H : Hp) (C : Addr) (cl : List (Str × Addr)) (fp : List Addr), PG (X.blk s H scope (compEnvC scope cl C X.env) fp) tg g) (ht : ∀ (s : Shared) (H : Hp) (C : Addr) (cl : List (Str × Addr)) (fp : List Addr), PTs (X.blk s H scope (compEnvC scope cl C X.env) fp) ifs tt)
    (hk : ∀ (s : Shared) (H : Hp) (C : Addr) (cl : List (Str × Addr)) (fp : List Addr), PE (X.blk s H scope (compEnvC scope cl C X.env) fp) kx tk)
    (he : ∀ (s : Shared) (H : Hp) (C : Addr) (cl : List (Str × Addr)) (fp : List Addr), PE (X.blk s H scope (compEnvC scope cl C X.env) fp) vx tv) (hs : ∀ x, foldedSetIterable iter X.env x = pure x := by intro _; rfl) :
    PS X (.Assign [.Name y py] (.DictComp kx vx [⟨tg, iter, ifs, 0⟩] scope pos) spos) (tAsg (tDc wi g tt tk tv (own.map (·.2))) (gName i)) := by
  refine ⟨fun pins s σ H D I h => ?_⟩
  rw [exec_Assign_Name_used _ _ _ _ hsw]
  refine wpAny_bind (wpAny_standAt (wpAny_bind ?_))
  show wpAny _ X.A (do let _ ← comprehension (.DictComp kx vx [⟨tg, iter, ifs, 0⟩] scope pos) scope X.env (firstIterPos [⟨tg, iter, ifs, 0⟩] pos) newDict false (eval iter X.env) (some (assign (.Name y py) X.env))) _ _ s
  have h : tDc wi g tt tk tv (own.map (·.2)) σ H (fun x H1 => gName i x σ H1 D.nx) := h
  refine wpAny_bind (thn (dc_core (Qf := fun _ s' => SP X pins D .next s') hc hN I hi ok hg ht hk he hs h fun L C s' m H' I' q hn f => ?_) fun _ s' hq => wpAny_pure (wpAny_pure hq))
  show wpAny _ _ (assign (.Name y py) X.env (.ref L)) _ _ _
  refine wpAny_assign_Name (store_ok2 (v := V.ref L) I' hN hy (.inl hyl) rfl (fun s2 I2 ⟨a, sb, ha⟩ => ?_) (.inr hyl))
  obtain ⟨f0, f1, f2, f3, f4, f5⟩ := f
  have haC : C ≠ a := by
    rcases ha with z | z
    · rw [z]; exact f1
    · exact fun e => f4 y a z e.symm
  refine ⟨m, hn.sameBut sb haC, fun h3 sb3 => ?_⟩
  exact ⟨_, H', I2.turned (t' := s2.toks) (fun b o hb e => (sb3.2 b hb).trans e) f0 f1 f3 f4 f5, q⟩
theorem sw_trueD {kx vx : Expr} {gs : List Comprehension} {scope : Scope} {pos py : Pos} {y : Str} {l : Nat} {env : Env} (hk : env.scope.kind = .function) (hy : env.scope.names.lookup y = some .local) (hl : (py.line == pos.line) = true)
    (ha : (scope.names.any fun (n, k) => n == y && (k == .local || k == .cell)) = false) : swapsWith (.DictComp kx vx gs scope pos) (some (.Name y py)) l env = pure true := by
  have ky : env.kindOf y = some .local := hy
  have hb : env.blockKind = .function := by unfold Env.blockKind; rw [hk]; rfl
  unfold swapsWith
  simp only [hb, ky, ha, Expr.pos, hl]
  rfl
end L2
namespace SD
open PySem PySem.Spec PyProof.Rows L2
variable {X : Cx}
section
variable {kx vx tg iter : Expr} {ifs : List Expr} {scope : Scope} {pos : Pos} {ti : TI2} {ns : List Nat} {g : TG2} {tt : TT2} {tk tv : TE2}
theorem ps_setDc2 (i : Nat) (own : List (Str × Nat)) {y : Str} {py spos : Pos} (hc : X.calm = true) (hN : X.N.Nodup) (hi : PI2 X tg iter ti) (ok : BlkOk X.N X.env.scope scope own)
    (hg : ∀ (s : Shared) (H : Hp) (C : Addr) (cl : List (Str × Addr)) (fp : List Addr), PG2 (X.blk s H scope (compEnvC scope cl C X.env) fp) tg ns g) (ht : ∀ (s : Shared) (H : Hp) (C : Addr) (cl : List (Str × Addr)) (fp : List Addr), PTs (X.blk s H scope (compEnvC scope cl C X.env) fp) ifs (upT X.fx tt))
    (hk : ∀ (s : Shared) (H : Hp) (C : Addr) (cl : List (Str × Addr)) (fp : List Addr), PE2 (X.blk s H scope (compEnvC scope cl C X.env) fp) kx tk) (he : ∀ (s : Shared) (H : Hp) (C : Addr) (cl : List (Str × Addr)) (fp : List Addr), PE2 (X.blk s H scope (compEnvC scope cl C X.env) fp) vx tv)
    (hy : X.N[i]? = some y := by rfl) (hyl : X.env.scope.names.lookup y = some .local := by rfl)
    (hsw : swapsWith (.DictComp kx vx [⟨tg, iter, ifs, 0⟩] scope pos) (some (.Name y py)) spos.line X.env = pure true := by exact sw_trueD rfl rfl rfl (by decide +kernel)) (hsub : ∀ n ∈ ns, n ∈ own.map (·.2) := by decide) (hs : ∀ x, foldedSetIterable iter X.env x = pure x := by intro _; rfl) :
    PS2 X (.Assign [.Name y py] (.DictComp kx vx [⟨tg, iter, ifs, 0⟩] scope pos) spos) (dSet i (dMatD false (dDc false ti g tt tk tv (own.map (·.2))))) :=
  (ps_setDc hc hN hy hyl hsw hi ok hg ht hk he hs).imp fun D1 σ H ⟨δ, G, D2, A, t, c⟩ => dc_up hsub ⟨δ, G, _, A, t, fun a u H' kvs G' k A' n f e r q =>
    c.1 _ H' _ _ (k.track f) ⟨SV.set (.ref a) i (A.sv.keep A.hp k), A'.track (DicX.mok (b := false) e r)⟩ (q a n)⟩
end
/-! ### dicts of flat keys: update, dict(d), list(d) -/
noncomputable def dmerge (kvs more : List (D × D)) : List (D × D) := more.foldl (fun acc kv => dput acc kv.1 kv.2) kvs
theorem DKR.merge {F : Fx} {H : Hp} : ∀ {more : List (Key × V)} {rs : List (D × D)} {kvs : List (Key × V)} {vs : List (D × D)}, DKR F H more rs → DKR F H kvs vs → DKR F H (mergeK kvs more) (dmerge vs rs) := by
  intro more rs kvs vs r
  unfold DKR at r
  induction r generalizing kvs vs with
  | nil => intro q; exact q
  | @cons p q ps qs h t ih =>
    intro r0
    exact ih (DKR.put r0 h.1 h.2)
noncomputable def mUpdate : RM2 := fun d ds G Q => match d, ds with
  | .ref a, [.ref b] => match G a, G b with
    | some (.dic false false xs), some (.dic _ false ys) => a ≠ b ∧ xs.length + ys.length ≤ sizeLine ∧ Q .non (gput G a (.dic false false (dmerge xs ys)))
    | _, _ => False
  | _, _ => False
theorem mt_update2 : MtR2 X "dict.update" mUpdate := by
  intro pins s σ H x xs v us Q I rx rs ⟨d, ds, G, Q2, A, hx, hs, q, c⟩
  unfold mUpdate at q
  split at q
  · rename_i a b
    split at q
    · rename_i zs l ws g1 g2
      obtain ⟨hab, hz, q⟩ := q
      cases hx
      cases hs with
      | cons ry t =>
        cases ry
        cases t
        cases rx
        rw [Vals.ref1 rs]
        obtain ⟨_, ⟨ks, rfl, r1⟩, e1⟩ := A a _ g1
        obtain ⟨_, ⟨ks2, rfl, r2⟩, e2⟩ := A b _ g2
        have e1' : H a = some (.dK ks) := e1
        obtain ⟨z1, hs1, vs1, rel1, dd1⟩ := dk_rd I.hok (.inl e1')
        obtain ⟨z2, hs2, vs2, rel2, dd2⟩ := dk_rd I.hok e2.rd
        have hlen : vs1.length + vs2.length ≤ sizeLine := by rw [← Paired.len rel1, ← Paired.len rel2, Paired.len r1, Paired.len r2]; exact hz
        obtain ⟨k, A'⟩ := dk_write A g1 (DKR.merge r2 r1)
        refine call_meetsIn PySem.F.slot_dict_update dd1.typeIs PySem.F.entry_dict_update (PySem.F.args_dict_update_2 _ _) (meets_dict_update (mixKind X.prog X.w) a b hab hs2) ⟨vs1, vs2, dd1, dd2, hlen, fun h' dd1' dd2' sb => ?_⟩
        refine ⟨.non, _, ?_, rfl, c _ _ _ _ k A' .non q⟩
        have hl' : (mergeK ks ks2).length ≤ sizeLine := by
          have h1 := length_mergeK ks2 ks
          rw [Paired.len r1, Paired.len r2] at h1
          omega
        have he : ∃ q, h'.get? a = some q := let ⟨q, _, _, hq, _⟩ := dd1'; ⟨q, hq⟩
        exact d_write I (by rw [e1']; exact True.intro) sb he (dk_new hl' hs1 (KV.merge rel2 rel1) dd1')
    · exact q.elim
  · exact q.elim
/-- dict(d): a copy -/
def pdCopyG (t : TE2) : TD2 := fun δ G Q => t δ G fun d G1 => match d with
  | .ref a => match G1 a with
    | some (.dic _ false kvs) => Q kvs G1
    | _ => False
  | _ => False
theorem Call1_ {e : Expr} {te : TE} {x : Str} {T : String} {p pos : Pos} {t : TE} (he : PE X e te) (hg : Gl X x) (hm : X.mg x = none) (hv : bootBuiltins x = some (.type T)) (hn : x ≠ "__name__" := by decide) (hdb : (x == ("__debug__" : Str)) = false := by decide)
    (na : starEach [e] X.env = (false, eval e X.env) :: starEach [] X.env := by rfl)
    (h : ∀ σ H Q, t σ H Q → te σ H fun v H1 => ∀ pins s u, Inv X pins σ H1 s → RelV v u → wpAny (model X.prog X.w) X.A (call (.type T) [u]) (EP X pins σ Q) X.xe s) : PE X (.Call (.Name x p) [e] [] pos) t := by
  refine ⟨fun pins s σ H Q I q => ?_⟩
  refine Call_ (ld_blt I hg hm hv (PyProof.Rows.callWith_type1 (args_cons (thn (he.run pins s σ H _ I (h σ H Q q)) fun u s1 ⟨v, H1, I1, r1, q1⟩ => args_nil ?_) na) na) hn hdb)
  exact q1 pins s1 u I1 r1
theorem pD_copy {e : Expr} {te : TE2} {p pos : Pos} (he : PE2 X e te) (hg : Gl X "dict") (hm : X.mg "dict" = none) (na : starEach [e] X.env = (false, eval e X.env) :: starEach [] X.env := by rfl) : PD2 X false (.Call (.Name "dict" p) [e] [] pos) (pdCopyG te) :=
  Call1_ (T := "dict") he hg hm (by decide +kernel) (by decide) (by decide) na fun σ H Q ⟨δ, G, Q2, A, t, c⟩ => ⟨δ, G, _, A, t, fun v H1 d G1 k1 A1 r1 q1 => by
    intro pins s u I ru
    cases r1 with
    | ref a =>
      dsimp only at q1
      split at q1
      · rename_i l kvs g
        cases ru
        obtain ⟨_, ⟨ks, rfl, r⟩, e⟩ := A1 a _ g
        refine d_copyOf I e.rd fun p s' hp I' => ⟨.ref p, _, I', rfl, ?_⟩
        exact c p (.dK ks) _ kvs G1 (k1.trans (.lay hp)) (A1.lay hp) (A1.free hp) (k1.fr hp) upd_same ⟨ks, rfl, Paired.mapP r fun _ _ z => ⟨z.1, z.2.keep A1 (.lay hp)⟩⟩ q1
      · exact q1.elim
    | _ => exact q1.elim⟩
/-- list(d): the keys -/
def plKeysG (t : TE2) : TA2 := fun δ G Q => t δ G fun d G1 => match d with
  | .ref a => match G1 a with
    | some (.dic false false kvs) => Q (kvs.map (·.1)) G1
    | _ => False
  | _ => False
theorem DKR.keys {F : Fx} {H : Hp} : ∀ {ks : List (Key × V)} {kvs : List (D × D)}, DKR F H ks kvs → DVs F H (ks.map fun kv => kV kv.1) (kvs.map (·.1))
  | _, _, .nil => .nil
  | _, _, .cons r t => .cons (keyD_dv r.1) (DKR.keys t)
theorem pl_keys {e : Expr} {te : TE2} {p pos : Pos} (hc : X.calm = true) (he : PE2 X e te) (hg : Gl X "list") (hm : X.mg "list" = none) (na : starEach [e] X.env = (false, eval e X.env) :: starEach [] X.env := by rfl) : PL2 X (.Call (.Name "list" p) [e] [] pos) (plKeysG te) :=
  Call1_ (T := "list") he hg hm (by decide +kernel) (by decide) (by decide) na fun σ H Q ⟨δ, G, Q2, A, t, c⟩ => ⟨δ, G, _, A, t, fun v H1 d G1 k1 A1 r1 q1 => by
    intro pins s u I ru
    cases r1 with
    | ref a =>
      dsimp only at q1
      split at q1
      · rename_i kvs g
        cases ru
        obtain ⟨_, ⟨ks, rfl, r⟩, e⟩ := A1 a _ g
        refine call_list_dK hc pins s σ H1 _ _ _ I (.cons (show RelV (.ref a) (.ref a) from rfl) .nil) ⟨a, ks, rfl, e, fun p hp => ?_⟩
        exact c p _ _ _ G1 (k1.trans (.lay hp)) (A1.lay hp) (A1.free hp) (k1.fr hp) upd_same ((DKR.keys r).keep A1 (.lay hp)) q1
      · exact q1.elim
    | _ => exact q1.elim⟩
end SD

set_option Elab.async false
set_option linter.all false
set_option maxRecDepth 100000
namespace SD
open PySem PySem.Spec PyProof.Rows L2
variable {X : Cx}

/-! ### d[k] op= e -/
noncomputable def dAugS (f : Int → Int → Int) (to ti te : TE2) : TS2 := fun D δ G => to δ G fun o G1 => ti δ G1 fun i G2 => match o with
  | .ref a => match G2 a with
    | some (.dic _ t kvs) => KeyC t i ∧ match dget kvs i with
      | some (.int x) => te δ G2 fun y G3 => match y with
        | .int y => sSet o i (.int (f x y)) G3 fun G4 => D.nx δ G4
        | _ => False
      | _ => False
    | _ => False
  | _ => False
/-- a dict's item, by values -/
def vGet (F : Fx) : V → V → Hp → VK → Prop := fun o i H Q => ∃ a l t kvs di d G, o = .ref a ∧ AbsG F H G ∧ G a = some (.dic l t kvs) ∧ DV F H i di ∧ KeyC t di ∧ dget kvs di = some d ∧ ∀ v, DV F H v d → Q v H
theorem get_dic (hu : X.A.units + 64 < cLine) : PGet X (vGet X.fx) := by
  intro pins s σ H o i ov iv Q I ro ri ⟨a, l, t, kvs, di, d, G, ho, A, g, hi, hc, e, q⟩
  subst ho
  cases ro
  obtain ⟨w, v, r1, r2, ty, h⟩ := dic_val hu I A g ri hi hc e
  exact h _ _ fun s' I' => ⟨v, H, I', r1, q v r2⟩
theorem ps_augS2 (hu : X.A.units + 64 < cLine) {o i e : Expr} {to ti te : TE2} {op : Operator} {f : Int → Int → Int} {tpos pos : Pos} (hp : PIp X op (ipI f)) (ho : PE2 X o to) (hi : PE2 X i ti) (he : PE2 X e te)
    (ha : ∀ ov iv new, augStore i ov iv new = (do holding [new, ov, iv] (setItem ov iv new); release [new, ov, iv] []; pure .next) := by intros; rfl) : PS2 X (.AugAssign (.Subscript o i tpos) op e pos) (dAugS f to ti te) := by
  refine (ps_augS ho hi (get_dic hu) he hp (set_all hu) ha).imp fun D1 σ H ⟨δ, G, D2, A, t, c⟩ => ?_
  refine ⟨δ, G, _, A, t, fun v1 H1 d1 G1 k1 A1 r1 q1 => ⟨δ, G1, _, A.to k1 A1, q1, fun v2 H2 d2 G2 k2 A2 r2 q2 => ?_⟩⟩
  have r1' := r1.keep A1 k2
  cases r1' with
  | ref a =>
    dsimp only at q2
    split at q2
    · rename_i l tt kvs g
      obtain ⟨kc, q2⟩ := q2
      split at q2
      · rename_i x e0
        refine ⟨a, l, tt, kvs, d2, _, G2, rfl, A2, g, r2, kc, e0, fun vx rx => ?_⟩
        cases rx
        refine ⟨δ, G2, _, (A.to k1 A1).to k2 A2, q2, fun v4 H4 d4 G4 k4 A4 r4 q4 => ?_⟩
        cases r4 with
        | int y => exact ⟨x, y, rfl, rfl, .ref a, d2, .int (f x y), G4, _, A4, .ref a, r2.keep A2 k4, .int _, q4, fun H5 G5 k5 A5 q5 => c.1 _ H5 _ G5 (((k1.trans k2).trans k4).trans k5) (A.to (((k1.trans k2).trans k4).trans k5) A5) q5⟩
        | _ => exact q4.elim
      · exact q2.elim
    · exact q2.elim
  | _ => exact q2.elim

/-! ### sets of whole numbers, at once read -/
/-- distinct, ascending -/
def sIns (x : Int) : List Int → List Int
  | [] => [x]
  | y :: r => if x < y then x :: y :: r else if x = y then y :: r else y :: sIns x r
def sdd : List Int → List Int
  | [] => []
  | x :: r => sIns x (sdd r)
theorem sIns_mem {x z : Int} : ∀ {l : List Int}, z ∈ sIns x l ↔ z = x ∨ z ∈ l
  | [] => by simp [sIns]
  | y :: r => by
    unfold sIns
    split
    · simp
    · split
      · rename_i h; subst h; simp
      · have := sIns_mem (x := x) (z := z) (l := r)
        simp only [List.mem_cons, this]
        constructor
        · rintro (h | h | h) <;> simp [h]
        · rintro (h | h | h) <;> simp [h]
theorem sdd_mem {z : Int} : ∀ {l : List Int}, z ∈ sdd l ↔ z ∈ l
  | [] => by simp [sdd]
  | y :: r => by unfold sdd; rw [sIns_mem, sdd_mem]; simp
theorem sIns_sorted {x : Int} : ∀ {l : List Int}, l.Pairwise (· < ·) → (sIns x l).Pairwise (· < ·)
  | [], _ => by simp [sIns]
  | y :: r, h => by
    obtain ⟨h1, h2⟩ := List.pairwise_cons.mp h
    unfold sIns
    split
    · rename_i c
      refine List.pairwise_cons.mpr ⟨fun z hz => ?_, h⟩
      rcases List.mem_cons.mp hz with rfl | hz
      · exact c
      · exact Int.lt_trans c (h1 z hz)
    · split
      · exact h
      · rename_i c1 c2
        refine List.pairwise_cons.mpr ⟨fun z hz => ?_, sIns_sorted h2⟩
        rcases sIns_mem.mp hz with rfl | hz
        · omega
        · exact h1 z hz
theorem sdd_sorted : ∀ l : List Int, (sdd l).Pairwise (· < ·)
  | [] => by simp [sdd]
  | y :: r => sIns_sorted (sdd_sorted r)
theorem sorted_unique : ∀ {a b : List Int}, a.Pairwise (· < ·) → b.Pairwise (· < ·) → (∀ z, z ∈ a ↔ z ∈ b) → a = b
  | [], [], _, _, _ => rfl
  | [], y :: r, _, _, h => absurd ((h y).mpr List.mem_cons_self) (by simp)
  | x :: r, [], _, _, h => absurd ((h x).mp List.mem_cons_self) (by simp)
  | x :: r, y :: t, ha, hb, h => by
    obtain ⟨a1, a2⟩ := List.pairwise_cons.mp ha
    obtain ⟨b1, b2⟩ := List.pairwise_cons.mp hb
    have e : x = y := by
      rcases List.mem_cons.mp ((h x).mp List.mem_cons_self) with e | e
      · exact e
      · rcases List.mem_cons.mp ((h y).mpr List.mem_cons_self) with e' | e'
        · exact e'.symm
        · have := b1 x e; have := a1 y e'; omega
    subst e
    have : r = t := sorted_unique a2 b2 fun z => by
      constructor
      · intro hz
        rcases List.mem_cons.mp ((h z).mp (List.mem_cons_of_mem _ hz)) with e | e
        · have := a1 z hz; omega
        · exact e
      · intro hz
        rcases List.mem_cons.mp ((h z).mpr (List.mem_cons_of_mem _ hz)) with e | e
        · have := b1 z hz; omega
        · exact e
    rw [this]
theorem sdd_nodup (l : List Int) : (sdd l).Nodup := (sdd_sorted l).imp fun h => by omega
theorem sdd_length_le : ∀ l : List Int, (sdd l).length ≤ l.length
  | [] => Nat.le_refl _
  | y :: r => by
    have h : ∀ l : List Int, (sIns y l).length ≤ l.length + 1 := by
      intro l
      induction l with
      | nil => simp [sIns]
      | cons z t ih =>
        unfold sIns
        split
        · simp
        · split
          · simp
          · simp; omega
    have := sdd_length_le r
    have := h (sdd r)
    show (sIns y (sdd r)).length ≤ r.length + 1
    omega
/-- the ints of a list of data -/
def intsD : List D → Option (List Int)
  | [] => some []
  | .int i :: r => (intsD r).map (i :: ·)
  | _ => none
theorem intsD_eq : ∀ {ds : List D} {ns : List Int}, intsD ds = some ns → ds = ns.map D.int
  | [], ns, h => by cases h; rfl
  | .int b :: r, ns, h => by
    unfold intsD at h
    cases e : intsD r with
    | none => rw [e] at h; cases h
    | some c => rw [e] at h; cases h; rw [intsD_eq e]; rfl
  | .non :: _, _, h => by cases h
  | .bl _ :: _, _, h => by cases h
  | .str _ :: _, _, h => by cases h
  | .tup _ :: _, _, h => by cases h
  | .ref _ :: _, _, h => by cases h
  | .cd _ :: _, _, h => by cases h
  | .scr _ :: _, _, h => by cases h
theorem intsD_map (ns : List Int) : intsD (ns.map D.int) = some ns := by
  induction ns with
  | nil => rfl
  | cons x r ih => show (intsD (r.map D.int)).map (x :: ·) = _; rw [ih]; rfl
/-- sorted(set(t)), t a tuple -/
def dSorSetT (t : TE2) : TA2 := fun δ G Q => t δ G fun d G1 => match d with
  | .tup ds => match intsD ds with
    | some ns => ns.length < 64 ∧ Q ((sdd ns).map D.int) G1
    | none => False
  | _ => False
theorem pl_sorSetT {e : Expr} {te : TE2} {p p2 q pos : Pos} (hc : X.calm = true) (hg : Gl X "sorted") (hm : X.mg "sorted" = none) (hg2 : Gl X "set") (hm2 : X.mg "set" = none) (he : PE2 X e te)
    (na : starEach [e] X.env = (false, eval e X.env) :: starEach [] X.env := by rfl) : PL2 X (.Call (.Name "sorted" p) [.Call (.Name "set" p2) [e] [] q] [] pos) (dSorSetT te) := by
  refine ⟨fun pins s σ H Q I ⟨δ, G, Q2, A, t, c⟩ => ?_⟩
  refine Call_ (ld_blt I hg hm boot_sorted ?_)
  refine PyProof.Rows.callWith_builtin1 (PyProof.Rows.args_cons ?_ rfl) rfl rfl
  refine Call_ (ld_blt I hg2 hm2 boot_set ?_)
  refine PyProof.Rows.callWith_type1 (PyProof.Rows.args_cons (thn (he.run pins s σ H (fun v H1 => ∃ d G1, Keep H G H1 G1 ∧ AbsG X.fx H1 G1 ∧ DV X.fx H1 v d ∧ _) I ⟨δ, G, _, A, t, fun v H1 d G1 k1 A1 r1 q1 => ⟨d, G1, k1, A1, r1, q1⟩⟩) fun v s1 ⟨x, H1, I1, r1, d, G1, k1, A1, rd, q1⟩ => PyProof.Rows.args_nil ?_) na) na rfl
  cases rd with
  | @tup l vs ds hs hr =>
    dsimp only at q1
    split at q1
    · rename_i ns ei
      obtain ⟨h64, q1⟩ := q1
      cases r1
      have e1 := intsD_eq ei
      subst e1
      have e2 := hr.ints
      subst e2
      obtain ⟨its, r, pl, hz⟩ := I1.tuple hs
      have lsc : scanBound > 65 := by unfold scanBound; decide
      refine call_set_tupI ns (I1.ok.hd hc) (show s1.heap.IsTuple l its.toArray from pl) (by simpa using intsAre_of r) (by omega) fun h' tk cnt R hcn hk => ?_
      refine PyProof.Rows.args_nil ?_
      refine L2.sorted_set R (I1.ok.hd hc) (by omega) fun s' p out c2 ns' kk hgens hos hp hout hI pw hmem hlen => ?_
      have I2 : Inv X pins σ H1 { s1 with heap := h', toks := tk } := I1.kept hk
      have ens : ns' = sdd ns := sorted_unique pw (sdd_sorted ns) fun z => by rw [hmem z, sdd_mem]; simp
      subst ens
      have hn : H1 p = none := I2.hok.fresh hp
      have hL : ((sdd ns).map V.int).length ≤ sizeLine := by rw [List.length_map, sizeLine_eq]; have := sdd_length_le ns; omega
      have hv : Vals ((sdd ns).map V.int) out.toList := vals_ints hI
      have J : Inv X pins σ (upd H1 p (.lst ((sdd ns).map V.int))) { ({ s1 with heap := h', toks := tk } : Shared) with heap := s'.heap, gens := s'.gens, drawn := s'.drawn, toks := s'.toks } :=
        I2.call (ch := []) (Un.laid kk hp hn) (I2.hok.laid kk hp ⟨hL, out.toList, c2, hv, hout⟩) (by rw [hgens]; exact I2.bare) (fun _ z => nomatch z)
      have e : s' = { ({ s1 with heap := h', toks := tk } : Shared) with heap := s'.heap, gens := s'.gens, drawn := s'.drawn, toks := s'.toks } := by
        cases s'; cases s1; cases hos; rfl
      rw [e]
      exact ⟨.ref p, _, J, rfl, c p _ _ _ G1 (k1.trans (.lay hn)) (A1.lay hn) (A1.free hn) (k1.fr hn) upd_same (.ofInts _) q1⟩
    · exact q1.elim
  | _ => exact q1.elim
end SD

set_option Elab.async false
set_option linter.all false
set_option maxRecDepth 100000
namespace SD
open PySem PySem.Spec PyProof.Rows L2
variable {X : Cx}

/-! ### len(set(l)) of a new list of whole numbers -/
theorem dedup_spec : ∀ (l acc : List Int), acc.Nodup → (l.foldl step_dedup acc).Nodup ∧ ∀ z, z ∈ l.foldl step_dedup acc ↔ z ∈ acc ∨ z ∈ l
  | [], acc, h => ⟨h, fun z => by simp⟩
  | x :: r, acc, h => by
    have h1 : (step_dedup acc x).Nodup ∧ ∀ z, z ∈ step_dedup acc x ↔ z ∈ acc ∨ z = x := by
      unfold step_dedup
      by_cases e : (acc.any (· == x)) = true
      · rw [if_pos e]
        refine ⟨h, fun z => ⟨.inl, fun q => q.elim id fun q => ?_⟩⟩
        obtain ⟨y, hy, e'⟩ := List.any_eq_true.mp e
        have : y = x := by simpa using e'
        rw [q, ← this]; exact hy
      · rw [if_neg e]
        have hx : x ∉ acc := fun q => e (List.any_eq_true.mpr ⟨x, q, by simp⟩)
        refine ⟨List.nodup_append.mpr ⟨h, by simp, fun a ha b hb => by simp at hb; rw [hb]; exact fun e => hx (e ▸ ha)⟩, fun z => by simp⟩
    obtain ⟨i1, i2⟩ := dedup_spec r (step_dedup acc x) h1.1
    refine ⟨i1, fun z => ?_⟩
    show z ∈ r.foldl step_dedup (step_dedup acc x) ↔ _
    rw [i2 z, h1.2 z]
    simp [or_assoc]
theorem range_getD (ns : List Int) : (List.range ns.length).map (fun i => ns.getD i 0) = ns := by
  refine List.ext_getElem (by simp) fun i h1 h2 => ?_
  simp at h1
  simp [List.getD_eq_getElem?_getD, h1]
theorem firstMet_all (ns : List Int) : firstMet (fun i => ns.getD i 0) ns.length = ns.foldl step_dedup [] := by
  unfold firstMet; rw [range_getD]
theorem len_same {a b : List Int} (ha : a.Nodup) (hb : b.Nodup) (h : ∀ z, z ∈ a ↔ z ∈ b) : a.length = b.length :=
  ((List.perm_ext_iff_of_nodup ha hb).mpr h).length_eq
theorem firstMet_len (ns : List Int) : (firstMet (fun i => ns.getD i 0) ns.length).length = (sdd ns).length := by
  rw [firstMet_all]
  obtain ⟨h1, h2⟩ := dedup_spec ns [] List.nodup_nil
  exact len_same h1 (sdd_nodup ns) fun z => by rw [h2 z, sdd_mem]; simp
def dLenSet (t : TA2) : TE2 := fun δ G Q => t δ G fun ds G1 => match intsD ds with
  | some ns => ns.length ≤ 4000 ∧ Q (.int (sdd ns).length) G1
  | none => False
theorem pd_lenSet {a : Expr} {t : TA2} {p p2 q pos : Pos} (hc : X.calm = true) (hg : Gl X "len") (hm : X.mg "len" = none) (hg2 : Gl X "set") (hm2 : X.mg "set" = none) (ha : PL2 X a t)
    (na : starEach [a] X.env = (false, eval a X.env) :: starEach [] X.env := by rfl) : PE2 X (.Call (.Name "len" p) [.Call (.Name "set" p2) [a] [] q] [] pos) (dLenSet t) := by
  refine ⟨fun pins s σ H Q I ⟨δ, G, Q2, A, t, c⟩ => ?_⟩
  refine Call_ (ld_blt I hg hm boot_len ?_)
  refine PyProof.Rows.callWith_builtin1 (PyProof.Rows.args_cons ?_ rfl) rfl rfl
  refine Call_ (ld_blt I hg2 hm2 boot_set ?_)
  refine PyProof.Rows.callWith_type1 (PyProof.Rows.args_cons (thn (ha.run pins s σ H (fun v H1 => ∃ l vs ds G1, v = .ref l ∧ Keep H G H1 G1 ∧ AbsG X.fx H1 G1 ∧ H1 l = some (.lst vs) ∧ DVs X.fx H1 vs ds ∧ (match intsD ds with
  | some ns => ns.length ≤ 4000 ∧ Q2 (.int (sdd ns).length) G1
  | none => False)) I ⟨δ, G, _, A, t, fun l vs H1 ds G1 k1 A1 n f e r q1 => ⟨l, vs, ds, G1, rfl, k1, A1, e, r, q1⟩⟩)
    fun v s1 ⟨x, H1, I1, r1, l, vs, ds, G1, ex, k1, A1, el, rd, q1⟩ => PyProof.Rows.args_nil ?_) na) na rfl
  subst ex
  cases r1
  split at q1
  · rename_i ns ei
    obtain ⟨h4, q1⟩ := q1
    have e1 := intsD_eq ei
    subst e1
    have e2 := rd.ints
    subst e2
    obtain ⟨its, r, pl, hz⟩ := I1.list (SqL.of el)
    have hlen : its.toArray.size = ns.length := by rw [List.size_toArray, ← r.length, List.length_map]
    refine call_set_list (I1.ok.hd hc) pl.isList (ns := ns) (by simpa using intsAre_of r) (by rw [hlen]; unfold scanBound; omega) fun h' tk hS hk => ?_
    refine PyProof.Rows.args_nil ?_
    rw [hlen, firstMet_len] at hS
    obtain ⟨o, es, ep, t, ho, hex, hd, _, _, _, hf, hn⟩ := hS
    have I2 : Inv X pins σ H1 { s1 with heap := h', toks := tk } := I1.kept fun b o e => hk b o (Heap.lt_size e) e
    have := sdd_length_le ns
    exact call_len_set ho hex hd hf (by rw [hn]; omega) ⟨.int (sdd ns).length, H1, I2.tok _, ⟨_, by rw [hn]⟩, c _ H1 _ G1 k1 A1 (.int _) q1⟩
  · exact q1.elim

/-! ### slices -/
abbrev TO2 := St2 → Gp → (Option Int → Gp → Prop) → Prop
def upO (F : Fx) (t : TO2) : TO := fun σ H Q => ∃ δ G Q2, Abs F H σ δ G ∧ t δ G Q2 ∧ ∀ o H' G', Keep H G H' G' → AbsG F H' G' → Q2 o G' → Q o H'
abbrev PO2 (X : Cx) (e : Option Expr) (t : TO2) : Prop := PO X e (upO X.fx t)
def oNo : TO2 := fun _ G Q => Q none G
def oYes (t : TE2) : TO2 := fun δ G Q => t δ G fun d G1 => match d with
  | .int i => Q (some i) G1
  | _ => False
theorem po_no : PO2 X none oNo := ⟨fun pins s σ H Q I ⟨δ, G, Q2, A, t, c⟩ => (po_none (X := X)).run pins s σ H Q I (c none H G .refl A.hp t)⟩
theorem po_yes {e : Expr} {te : TE2} (h : PE2 X e te) : PO2 X (some e) (oYes te) := ⟨fun pins s σ H Q I ⟨δ, G, Q2, A, t, c⟩ => (po_some h).run pins s σ H Q I ⟨δ, G, _, A, t, fun v H1 d G1 k1 A1 r1 q1 => by
  cases r1 with
  | int i => exact ⟨i, rfl, c _ H1 G1 k1 A1 q1⟩
  | _ => exact q1.elim⟩⟩
def cutD (xs : List D) (lo hi : Option Int) : List D := (xs.drop (HT.sIx xs.length 0 lo)).take (HT.sIx xs.length xs.length hi - HT.sIx xs.length 0 lo)
theorem DVs.cut {F : Fx} {H : Hp} {vs : List V} {ds : List D} (h : DVs F H vs ds) (lo hi : Option Int) : DVs F H (cutV vs lo hi) (cutD ds lo hi) := by
  unfold cutV cutD
  rw [h.length]
  exact (h.drop _).take _
/-- of a list -/
def dSlL (te : TE2) (tl th : TO2) : TA2 := fun δ G Q => te δ G fun d G1 => match d with
  | .ref a => tl δ G1 fun l G2 => th δ G2 fun h G3 => match G3 a with
    | some (.lst _ ds) => Q (cutD ds l h) G3
    | _ => False
  | .scr ns => tl δ G1 fun l G2 => th δ G2 fun h G3 => Q (cutD (ns.map D.int) l h) G3
  | _ => False
/-- of a tuple -/
def dSlT (te : TE2) (tl th : TO2) : TE2 := fun δ G Q => te δ G fun d G1 => tl δ G1 fun l G2 => th δ G2 fun h G3 => match d with
  | .tup ds => Q (.tup (cutD ds l h)) G3
  | _ => False
theorem pl_slice {e : Expr} {te : TE2} {lo hi : Option Expr} {tl th : TO2} {p2 pos : Pos} (he : PE2 X e te) (hl : PO2 X lo tl) (hh : PO2 X hi th) : PL2 X (.Subscript e (.Slice lo hi none p2) pos) (dSlL te tl th) :=
  (pe_slice sl_list he hl hh).imp fun σ H Q ⟨δ, G, Q2, A, t, c⟩ => ⟨δ, G, _, A, t, fun v H1 d G1 k1 A1 r1 q1 => by
    cases r1 with
    | ref a =>
      refine ⟨δ, G1, _, A.to k1 A1, q1, fun l H2 G2 k2 A2 q2 => ⟨δ, G2, _, (A.to k1 A1).to k2 A2, q2, fun h H3 G3 k3 A3 q3 => ?_⟩⟩
      split at q3
      · rename_i lk ds g
        obtain ⟨vs, r, hs⟩ := A3.lst g
        exact ⟨a, vs, rfl, hs, fun p hp => c p _ _ _ G3 (((k1.trans k2).trans k3).trans (.lay hp)) (A3.lay hp) (A3.free hp) (((k1.trans k2).trans k3).fr hp) upd_same ((r.cut l h).keep A3 (.lay hp)) q3⟩
      · exact q3.elim
    | @scr a ns hs =>
      refine ⟨δ, G1, _, A.to k1 A1, q1, fun l H2 G2 k2 A2 q2 => ⟨δ, G2, _, (A.to k1 A1).to k2 A2, q2, fun h H3 G3 k3 A3 q3 => ?_⟩⟩
      exact ⟨a, ns.map V.int, rfl, ((hs.keep k2).keep k3).seq, fun p hp => c p _ _ _ G3 (((k1.trans k2).trans k3).trans (.lay hp)) (A3.lay hp) (A3.free hp) (((k1.trans k2).trans k3).fr hp) upd_same (((DVs.ofInts ns).cut l h).keep A3 (.lay hp)) q3⟩
    | _ => exact q1.elim⟩
theorem cut_whole {α : Type} (xs : List α) {i j : Nat} (h : i = 0 ∧ j = xs.length) : (xs.drop i).take (j - i) = xs := by
  obtain ⟨rfl, rfl⟩ := h; simp
theorem pd_slice {e : Expr} {te : TE2} {lo hi : Option Expr} {tl th : TO2} {p2 pos : Pos} (he : PE2 X e te) (hl : PO2 X lo tl) (hh : PO2 X hi th) : PE2 X (.Subscript e (.Slice lo hi none p2) pos) (dSlT te tl th) :=
  (pe_slice sl_tupA he hl hh).imp fun σ H Q ⟨δ, G, Q2, A, t, c⟩ => ⟨δ, G, _, A, t, fun v H1 d G1 k1 A1 r1 q1 =>
    ⟨δ, G1, _, A.to k1 A1, q1, fun l H2 G2 k2 A2 q2 => ⟨δ, G2, _, (A.to k1 A1).to k2 A2, q2, fun h H3 G3 k3 A3 q3 => by
      have r3 := (r1.keep A1 k2).keep A2 k3
      cases r3 with
      | @tup a vs ds hs hr =>
        have k := (k1.trans k2).trans k3
        refine ⟨a, vs, rfl, hs, fun w => ?_, fun w p hp => ?_⟩
        · have e : cutD ds l h = ds := cut_whole ds (by rw [← hr.length]; exact w)
          refine c _ H3 _ G3 k A3 (.tup hs hr) ?_
          rw [← e]; exact q3
        · exact c _ _ _ G3 (k.trans (.lay hp)) (A3.lay hp) (.tup (SqT.of upd_same) ((hr.cut l h).keep A3 (.lay hp))) q3
      | _ => exact q3.elim⟩⟩⟩

/-! ### several times -/
/-- [x] * n -/
def dRepL (t : TA2) (tb : TE2) : TE2 := fun δ G Q => t δ G fun ds G1 => tb δ G1 fun y G2 => match y with
  | .int k => -(2 ^ 63) ≤ k ∧ k < 2 ^ 63 ∧ ds.length * k.toNat ≤ sizeLine ∧ ∀ p, G2 p = none → Q (.ref p) (gput G2 p (.lst false (List.replicate k.toNat ds).flatten))
  | _ => False
theorem pd_repL {a b : Expr} {t : TA2} {tb : TE2} {pos : Pos} (ha : PL2 X a t) (hb : PE2 X b tb) : PE2 X (.BinOp a .Mult b pos) (dRepL t tb) :=
  (pe_op op_rep ha hb).imp fun σ H Q ⟨δ, G, Q2, A, t, c⟩ => ⟨δ, G, _, A, t, fun a vs H1 ds G1 k1 A1 n f e r q1 => ⟨δ, G1, _, A.to k1 A1, q1, fun y H2 d2 G2 k2 A2 r2 q2 => by
    cases r2 with
    | int k =>
      obtain ⟨b1, b2, b3, q2⟩ := q2
      obtain ⟨e2, n2⟩ := k2.old a _ e n
      have r' := r.keep A1 k2
      refine ⟨a, k, vs, rfl, rfl, e2, b1, b2, by rw [r.length]; exact b3, fun p hp => ?_⟩
      refine c _ _ _ (gput G2 p _) ((k1.trans k2).trans (.new hp)) (A2.new hp ?_) (.ref p) (q2 p (A2.free hp))
      exact ⟨_, (r'.rep k.toNat).keep A2 (.lay hp), upd_same⟩
    | _ => exact q2.elim⟩⟩
/-- a tuple times a number from 1 on -/
def dRepT (ta tb : TE2) : TE2 := fun δ G Q => ta δ G fun x G1 => tb δ G1 fun y G2 => match x, y with
  | .tup ds, .int k => ds ≠ [] ∧ 2 ≤ k ∧ k ≤ 1000 ∧ ds.length ≤ 1000 ∧ Q (.tup (List.replicate k.toNat ds).flatten) G2
  | _, _ => False

/-! ### l[i] of a new list -/
def dIxL (t : TA2) (tb : TE2) : TE2 := fun δ G Q => t δ G fun ds G1 => tb δ G1 fun y G2 => match y with
  | .int i => match atI ds i with
    | some d => Q d G2
    | none => False
  | _ => False
def oLI (F : Fx) : R2 := fun x y H Q => ∃ a vs i v, x = .ref a ∧ y = .int i ∧ SqL F.K H a vs ∧ atI vs i = some v ∧ Q v H
theorem pd_ixL {a b : Expr} {t : TA2} {tb : TE2} {pos : Pos} (ha : PL2 X a t) (hb : PE2 X b tb) (hs : PlainIx b := by exact fun _ _ => rfl) : PE2 X (.Subscript a b pos) (dIxL t tb) :=
  (pe_ix ix_list ha hb hs).imp fun σ H Q ⟨δ, G, Q2, A, t, c⟩ => ⟨δ, G, _, A, t, fun a vs H1 ds G1 k1 A1 n f e r q1 => ⟨δ, G1, _, A.to k1 A1, q1, fun y H2 d2 G2 k2 A2 r2 q2 => by
    cases r2 with
    | int i =>
      dsimp only at q2
      split at q2
      · rename_i d ed
        obtain ⟨e2, n2⟩ := k2.old a _ e n
        obtain ⟨v, e3, r3⟩ := atI_paired (r.keep A1 k2) ed
        exact ⟨a, vs, i, v, rfl, rfl, SqL.of e2, e3, c _ H2 _ G2 (k1.trans k2) A2 r3 q2⟩
      · exact q2.elim
    | _ => exact q2.elim⟩⟩

/-! ### a tuple whose methods are called -/
def dTpl (t : TA2) : TE2 := fun δ G Q => t δ G fun ds G1 => ∀ p, G1 p = none → Q (.ref p) (gput G1 p (.tpl ds))
def upF (F : Fx) (t : TA2) : TE := fun σ H Q => ∃ δ G Q2, Abs F H σ δ G ∧ t δ G Q2 ∧ ∀ a vs H' ds G', Keep H G H' G' → AbsG F H' G' → SqL F.K H' a vs → DVs F H' vs ds → Q2 ds G' → Q (.ref a) H'
abbrev PF2 (X : Cx) (e : Expr) (t : TA2) : Prop := PE X e (upF X.fx t)
theorem pf_L {e : Expr} {t : TA2} (h : PL2 X e t) : PF2 X e t := h.imp fun σ H Q ⟨δ, G, Q2, A, t, c⟩ => ⟨δ, G, _, A, t, fun a vs H' ds G' k A' n f e r q => c a vs H' ds G' k A' (SqL.of e) r q⟩
def fE (t : TE2) : TA2 := fun δ G Q => t δ G fun d G1 => match d with
  | .ref a => match G1 a with
    | some (.lst _ ds) => Q ds G1
    | _ => False
  | _ => False
theorem pf_E {e : Expr} {t : TE2} (h : PE2 X e t) : PF2 X e (fE t) := h.imp fun σ H Q ⟨δ, G, Q2, A, t, c⟩ => ⟨δ, G, _, A, t, fun v H' d G' k A' r q => by
  cases r with
  | ref a =>
    dsimp only at q
    split at q
    · rename_i l ds e
      obtain ⟨vs, r, hs⟩ := A'.lst e
      exact c a vs H' ds G' k A' hs r q
    · exact q.elim
  | _ => exact q.elim⟩
theorem pd_tpl {x : Expr} {t : TA2} {p pos : Pos} (hg : Gl X "tuple") (hm : X.mg "tuple" = none) (he : PF2 X x t) (na : starEach [x] X.env = (false, eval x X.env) :: starEach [] X.env := by rfl) : PE2 X (.Call (.Name "tuple" p) [x] [] pos) (dTpl t) :=
  Call1_ (T := "tuple") he hg hm boot_tuple (by decide) (by decide) na fun σ H Q ⟨δ, G, Q2, A, t, c⟩ => ⟨δ, G, _, A, t, fun a vs H1 ds G1 k1 A1 hs r q1 => by
    intro pins s u I ru
    cases ru
    obtain ⟨its, r', pl, hz⟩ := I.list hs
    have hlen := r'.length
    refine call_tuple_list pl.isList (fun h' kp => ?_) (by simp only [List.size_toArray]; omega)
    have I1 : Inv X pins σ H1 { s with heap := h' } := I.kept (t' := s.toks) kp
    have hn : H1 h'.objs.size = none := I1.hok.fresh (Nat.le_refl _)
    have I2 : Inv X pins σ (upd H1 h'.objs.size (.frz { cls := .type "tuple", data := .seq its.toArray } (.tup vs))) { s with heap := h'.push { cls := .type "tuple", data := .seq its.toArray } } :=
      I1.laid (t' := s.toks) (fun b o e => Heap.get?_push_of_some _ e) (Nat.le_refl _) (show ObjOk X.prog X.w _ _ _ (.frz _ (.tup vs)) from ⟨Heap.get?_push_size _ rfl, hz, its, r', IsTup.new _ _⟩)
    refine ⟨.ref h'.objs.size, _, I2, rfl, c _ _ _ (gput G1 h'.objs.size (.tpl ds)) (k1.trans (.new hn)) (A1.new hn ?_) (.ref _) (q1 _ (A1.free hn))⟩
    exact ⟨vs, _, r.keep A1 (.lay hn), upd_same, rfl⟩⟩
noncomputable def mIndexT : RM2 := fun d ds G Q => match d, ds with
  | .ref a, [.int i] => match G a with
    | some (.tpl xs) => match intsD xs with
      | some ns => i ∈ ns ∧ Q (.int (ns.idxOf i : Nat)) G
      | none => False
    | _ => False
  | _, _ => False
theorem mt_indexT2 : MtR2 X "tuple.index" mIndexT := by
  intro pins s σ H x xs v us Q I rx rs ⟨d, ds, G, Q2, A, hx, hs, q, c⟩
  unfold mIndexT at q
  split at q
  · rename_i a i
    split at q
    · rename_i zs g
      split at q
      · rename_i ns en
        obtain ⟨hi, q⟩ := q
        have e1 := intsD_eq en
        subst e1
        cases hx
        cases rx
        cases hs with
        | cons ry t =>
          cases ry
          cases t
          cases rs with
          | cons r1 rt =>
            cases rt
            obtain ⟨t, rfl⟩ := r1
            obtain ⟨vs, o, r, e, hn⟩ := A a _ g
            have e2 := r.ints
            subst e2
            obtain ⟨its, r', pl, hz⟩ := I.tuple (a := a) (xs := ns.map V.int) (.inl (.inr ⟨o, e⟩))
            exact PySem.SeqAt.tuple_index_ints (s := s) (l := a) (vs := its) pl (intsAre_of r') hi ⟨.int (ns.idxOf i : Nat), H, I.tok _, ⟨_, rfl⟩, c _ H _ G .refl A (.int _) q⟩
      · exact q.elim
    · exact q.elim
  · exact q.elim
/-! ### list(range(n)) -/
def dLRng (t : TE2) : TA2 := fun δ G Q => t δ G fun d G1 => match d with
  | .int n => 0 ≤ n ∧ n ≤ 16777216 ∧ Q (((List.range n.toNat).map fun (i : Nat) => D.int i)) G1
  | _ => False
end SD

set_option Elab.async false
set_option linter.all false
set_option maxRecDepth 100000
set_option maxHeartbeats 4000000
namespace SD
open PySem PySem.Spec PyProof.Rows L2
variable {X : Cx}
open AutoSeq1 (wpAny_loadPart')

/-! ### a tuple once -/
theorem tupMul1 (l : Addr) (its : Array Value) (n : Nat) (dd : Option Addr) (sl : Array (Option Value)) (u : Tok) :
    Meets (Builtin.«tuple.__mul__» ⟨[.ref l, .int 1 u], []⟩) (fun _ R s => s.heap.get? l = some { cls := .type "tuple", dict := dd, data := .seq its n, slots := sl } ∧ R (.ok (.ret (Value.ref l))) s) :=
  .of_wp fun prog w A R s h => by
    obtain ⟨hp, g, d, tk, os⟩ := s
    obtain ⟨hl, h⟩ := h
    have f1 := AutoSeq1.idx_int
    wp_walk using wpAny_loadPart' hl
    repeat (first
      | (refine wpAny_ite_false (by decide) ?_; wp_walk using wpAny_loadPart' hl)
      | (refine wpAny_ite_true (by simp) ?_; wp_walk using wpAny_loadPart' hl))
    exact ⟨_, rfl, h⟩
theorem op_mul1T {x y : V} {v u : Value} {pins : List (Addr × Obj)} {σ : L2.St} {H : Hp} {s : Shared} {Q : VK} {a : Addr} {vs : List V} (I : Inv X pins σ H s) (rx : RelV (.ref a) v) (ry : RelV (.int 1) u) (hT : SqT X.K H a vs) (q : Q (.ref a) H) :
    wpAny (model X.prog X.w) X.A (binaryOp .Mult v u) (EP X pins σ Q) X.xe s := by
  cases rx
  obtain ⟨t, rfl⟩ := ry
  obtain ⟨its, r, ⟨⟨cls, dd, data, sl⟩, ho, hc, n, hd⟩, hs⟩ := I.tuple hT
  simp only at hc hd
  subst hc hd
  exact wpAny_binaryOp_repeat_ref (T := "tuple") (U := "int") (by decide) ⟨_, ho, rfl⟩ (fun s' => typeIs_int s' 1 t) noFill_tuple_mul PySem.F.fills_int_mul PySem.F.slot_int_rmul repeat_tuple PySem.F.slot_int_index.lookup
    (call_meets PySem.F.slot_int_rmul (typeIs_int s 1 t) PySem.F.entry_int_rmul (PySem.F.args_int_rmul_2 _ _) (int_rmul_tuple 1 t a its.toArray n dd sl)
      ⟨ho, rfl, ⟨_, ho, rfl⟩, call_meets PySem.F.slot_tuple_mul ⟨_, ho, rfl⟩ PySem.F.entry_tuple_mul (PySem.F.args_tuple_mul_2 _ _) (tupMul1 a its.toArray n dd sl t) ⟨ho, ⟨.ref a, H, I, rfl, q⟩⟩⟩)
def oRepT : R22 := fun x y G Q => match x, y with
  | .tup ds, .int k => ds ≠ [] ∧ 1 ≤ k ∧ k ≤ 1000 ∧ ds.length ≤ 1000 ∧ Q (.tup (List.replicate k.toNat ds).flatten) G
  | _, _ => False
theorem op_repT2 : OpR2 X (binaryOp .Mult) oRepT := by
  intro pins s σ H x y v u Q I rx ry ⟨dx, dy, G, Q2, A, hx, hy, q, c⟩
  unfold oRepT at q
  split at q
  · rename_i ds k
    obtain ⟨h1, h2, h3, h4, q⟩ := q
    cases hy
    cases hx with
    | @tup a vs _ hs hr =>
      by_cases e : k = 1
      · subst e
        refine op_mul1T (x := .ref a) (y := .int 1) I rx ry hs (c _ H _ G .refl A (.tup hs hr) ?_)
        have : (List.replicate (1 : Int).toNat ds).flatten = ds := by simp
        rw [this] at q; exact q
      · have hne : vs ≠ [] := fun z => h1 (by have := hr.length; rw [z] at this; exact List.eq_nil_of_length_eq_zero this.symm)
        exact op_repT pins s σ H _ _ v u Q I rx ry ⟨a, k, vs, rfl, rfl, hs, hne, by omega, h3, by rw [hr.length]; exact h4, fun p hp =>
          c _ _ _ G (.lay hp) (A.lay hp) (.tup (SqT.of upd_same) ((hr.rep k.toNat).keep A (.lay hp))) q⟩
  · exact q.elim

/-! ### list(range(n)) -/
theorem rgV_eq (n : Nat) : rgV 0 n = (List.range n).map fun (i : Nat) => V.int i := by
  refine List.ext_getElem? fun i => ?_
  unfold rgV
  simp
theorem DVs.rng {F : Fx} {H : Hp} (n : Nat) : DVs F H ((List.range n).map fun (i : Nat) => V.int i) ((List.range n).map fun (i : Nat) => D.int i) := by
  have h := DVs.ofInts (F := F) (H := H) ((List.range n).map fun (i : Nat) => (i : Int))
  simpa [List.map_map, Function.comp_def] using h
theorem pl_rng {e : Expr} {te : TE2} {p p2 pos q : Pos} (hc : X.calm = true) (hg : Gl X "list") (hm : X.mg "list" = none) (hg2 : Gl X "range") (hm2 : X.mg "range" = none) (he : PE2 X e te)
    (na : starEach [.Call (.Name "range" p2) [e] [] q] X.env = (false, eval (.Call (.Name "range" p2) [e] [] q) X.env) :: starEach [] X.env := by rfl) (nb : starEach [e] X.env = (false, eval e X.env) :: starEach [] X.env := by rfl) :
    PL2 X (.Call (.Name "list" p) [.Call (.Name "range" p2) [e] [] q] [] pos) (dLRng te) := by
  refine (pe_listRg hc hg hm (prg_1 hg2 hm2 he nb) na).imp fun σ H Q ⟨δ, G, Q2, A, t, c⟩ => ⟨δ, G, _, A, t, fun v H1 d G1 k1 A1 r1 q1 => ?_⟩
  cases r1 with
  | int n =>
    obtain ⟨h0, h1, q1⟩ := q1
    refine ⟨n, rfl, .of_le (by omega) h1 (by omega) h0, fun p hp => ?_⟩
    have e : rgV 0 n = (List.range n.toNat).map fun (i : Nat) => V.int i := by
      have := rgV_eq n.toNat
      rw [show ((n.toNat : Nat) : Int) = n by omega] at this
      exact this
    rw [e]
    exact c p _ _ _ G1 (k1.trans (.lay hp)) (A1.lay hp) (A1.free hp) (k1.fr hp) upd_same (.rng _) q1
  | _ => exact q1.elim

/-! ### t[::-1] -/
theorem revPick (its : Array Value) : ((List.range its.size).filterMap fun (k : Nat) => its[(((its.size : Int) - 1) + (k : Int) * (-1)).toNat]?).toArray = its.toList.reverse.toArray := by
  congr 1
  have e : (List.range its.size).filterMap (fun (k : Nat) => its[(((its.size : Int) - 1) + (k : Int) * (-1)).toNat]?) = (List.range its.size).filterMap fun k => its.toList.reverse[k]? := by
    have key : ∀ (l : List Nat) (f g : Nat → Option Value), (∀ k ∈ l, f k = g k) → l.filterMap f = l.filterMap g := by
      intro l f g
      induction l with
      | nil => intro _; rfl
      | cons a r ih =>
        intro h
        rw [List.filterMap_cons, List.filterMap_cons, h a List.mem_cons_self, ih fun k hk => h k (List.mem_cons_of_mem _ hk)]
    refine key _ _ _ fun k hk => ?_
    have hk' : k < its.size := List.mem_range.mp hk
    have e1 : (((its.size : Int) - 1) + (k : Int) * (-1)).toNat = its.size - 1 - k := by omega
    rw [e1, List.getElem?_reverse (by simpa using hk')]
    simp
  rw [e]
  refine List.ext_getElem? fun i => ?_
  have gen : ∀ (l : List Value) (n : Nat), n ≤ l.length → (List.range n).filterMap (fun k => l[k]?) = l.take n := by
    intro l n
    induction n with
    | zero => intro _; simp
    | succ n ih =>
      intro h
      rw [List.range_succ, List.filterMap_append, ih (by omega), List.take_add_one]
      simp only [List.filterMap_cons, List.filterMap_nil]
      rw [List.getElem?_eq_getElem (by omega)]
      rfl
  rw [gen _ _ (by simp)]
  rw [List.take_of_length_le (by simp)]
theorem sliceRev {P : Program} {w : World} {A : Around} {E : Value → Shared → Prop} {s : Shared} {sl : Addr} {vl vu vs : Value} {n : Nat} {Q : Int × Int × Nat → Shared → Prop} (hs : s.heap.IsSliceOf sl vl vu vs) (pl : IsPart vl none) (pu : IsPart vu none) (ps : IsPart vs (some (-1)))
    (h : Q ((n : Int) - 1, -1, n) s) : wpAny (model P w) A (Builtin.Slice.sliceApplied (.ref sl) (pure (n : Int))) Q E s := by
  obtain ⟨os, hos, hcs, hds⟩ := id hs
  unfold Builtin.Slice.sliceApplied Builtin.Slice.sliceFields
  refine wpAny_bind (wpAny_bind (wpAny_field hos hds (x := vl) rfl (wpAny_bind (wpAny_field hos hds (x := vu) rfl (wpAny_bind (wpAny_field hos hds (x := vs) rfl (wpAny_pure ?_)))))))
  refine wpAny_bind (HT.slicePart_ ps ?_)
  show wpAny _ _ (if ((-1 : Int) == 0) = true then _ else _) _ _ s
  rw [if_neg (by decide)]
  refine wpAny_bind (HT.slicePart_ pl (wpAny_bind (HT.slicePart_ pu (wpAny_bind (wpAny_pure ?_)))))
  have e : Builtin.Slice.sliceAdjust none none (-1) (n : Int) = ((n : Int) - 1, -1) := by
    unfold Builtin.Slice.sliceAdjust; simp
  show wpAny _ _ (match Builtin.Slice.sliceAdjust none none (-1) (n : Int) with | (lo, hi) => pure (lo, (-1 : Int), Builtin.Slice.slicePlaces lo hi (-1))) _ _ s
  rw [e]
  show wpAny _ _ (pure ((n : Int) - 1, (-1 : Int), Builtin.Slice.slicePlaces ((n : Int) - 1) (-1) (-1))) _ _ s
  have e2 : Builtin.Slice.slicePlaces ((n : Int) - 1) (-1) (-1) = n := by
    unfold Builtin.Slice.slicePlaces
    simp only [show ¬ ((-1 : Int) > 0) by decide, if_false, Int.neg_neg, Int.ediv_one]
    split <;> omega
  rw [e2]
  exact wpAny_pure h
theorem getRev {P : Program} {w : World} {A : Around} {E : Value → Shared → Prop} {s : Shared} {t sl : Addr} {its : Array Value} {vl vu vs : Value} {Q : Value → Shared → Prop} (ht : IsTup s.heap t its) (hs : s.heap.IsSliceOf sl vl vu vs) (pl : IsPart vl none) (pu : IsPart vu none) (ps : IsPart vs (some (-1)))
    (h : Q (.ref s.heap.objs.size) { s with heap := s.heap.push { cls := .type "tuple", data := .seq its.toList.reverse.toArray } }) (hsz : its.size ≤ sizeLine) : wpAny (model P w) A (getItem (.ref t) (.ref sl)) Q E s := by
  obtain ⟨os, hos, hcs, hds⟩ := id hs
  have hT : s.TypeIs (.ref sl) "slice" := ⟨os, hos, hcs⟩
  have ok : sizeOk (.seq its.toList.reverse.toArray) := by
    show its.toList.reverse.toArray.size ≤ sizeLine
    simpa using hsz
  unfold getItem
  first | (with_reducible refine wpAny_holding ?_) | skip
  first | refine wpAny_bind (wpAny_pure ?_) | skip
  refine wpAny_bind (wpAny_sequenceKey ht.typeIs (by decide) ?_)
  refine wpAny_bind (wpAny_callSpecial?_slot (name := Str.ofString "__getitem__") ht.typeIs PyProof.Rows.slot_tuple_getitem (wpAny_call_entry PyProof.Rows.slot_tuple_getitem ht.typeIs entry_tuple_getitem ?_ (args_tuple_getitem _ _)))
  show wpAny _ _ (Builtin.Tuple.tupleItemsOf (.ref t) >>= _) _ _ s
  refine wpAny_bind (tupleItemsOf_ ht (wpAny_bind (wpAny_typeOf hT ?_)))
  rw [if_pos (by decide)]
  refine wpAny_bind (sliceRev hs pl pu ps ?_)
  have no : ¬ ((((its.size : Int) - 1) == 0 && (-1 : Int) == 1 && its.size == its.size) = true) := by simp
  show wpAny _ _ (if (((its.size : Int) - 1) == 0 && (-1 : Int) == 1 && its.size == its.size) = true then _ else _) _ _ s
  rw [if_neg no, revPick]
  first
    | exact wpAny_bind (m := Builtin.Tuple.tupleExact _) (wpAny_newObj_type (wpAny_pure ⟨_, rfl, wpAny_pure h⟩) ok)
    | exact wpAny_bind (m := Builtin.Tuple.tupleExact _) (wpAny_newObj_type (wpAny_bind (wpAny_pure (wpAny_pure ⟨_, rfl, wpAny_pure h⟩))) ok)
    | exact wpAny_bind (wpAny_bind (m := Builtin.Tuple.tupleExact _) (wpAny_newObj_type (wpAny_pure (wpAny_pure ⟨_, rfl, wpAny_pure h⟩)) ok))
    | exact wpAny_bind (wpAny_bind (m := Builtin.Tuple.tupleExact _) (wpAny_newObj_type (wpAny_pure ⟨_, rfl, wpAny_pure h⟩) ok))
def dRevT (te : TE2) : TE2 := fun δ G Q => te δ G fun d G1 => match d with
  | .tup ds => Q (.tup ds.reverse) G1
  | _ => False
theorem pd_revT {e : Expr} {te : TE2} {k : Nat} {p1 p2 p3 pos : Pos} (he : PE2 X e te) : PE2 X (.Subscript e (.Slice none none (some (.UnaryOp .USub (.Constant (.int 1) k p1) p2)) p3) pos) (dRevT te) := by
  refine ⟨fun pins s σ H Q I ⟨δ, G, Q2, A, t, c⟩ => ?_⟩
  refine Subscript_ (thn (he.run pins s σ H (fun v H1 => ∃ d G1, Keep H G H1 G1 ∧ AbsG X.fx H1 G1 ∧ DV X.fx H1 v d ∧ (match d with
    | .tup ds => Q2 (.tup ds.reverse) G1
    | _ => False)) I ⟨δ, G, _, A, t, fun v H1 d G1 k1 A1 r1 q1 => ⟨d, G1, k1, A1, r1, q1⟩⟩) fun v s1 ⟨x, H1, I1, r1, d, G1, k1, A1, rd, q1⟩ => ?_)
  cases rd with
  | @tup a vs ds hs hr =>
    cases r1
    have hst : PO X (some (.UnaryOp .USub (.Constant (.int 1) k p1) p2)) (tPart (tUn (rU fun i => .int (-i)) (tC (.int 1)))) := po_some (pe_un un_neg pe_int)
    refine wpAny_Slice (thn (po_none.run pins s1 σ H1 (fun o H2 => o = none ∧ H2 = H1) I1 ⟨rfl, rfl⟩) fun vl s2 ⟨l, H2, I2, pl, el, e2⟩ => ?_)
    subst el e2
    refine thn (po_none.run pins s2 σ H2 (fun o H3 => o = none ∧ H3 = H2) I2 ⟨rfl, rfl⟩) fun vu s3 ⟨u, H3, I3, pu, eu, e3⟩ => ?_
    subst eu e3
    refine thn (hst.run pins s3 σ H3 (fun o H4 => o = some (-1) ∧ H4 = H3) I3 ⟨1, rfl, -1, rfl, rfl, rfl⟩) fun w4 s4 ⟨o, H4, I4, ps, eo, e4⟩ => ?_
    subst eo e4
    have I5 : Inv X pins σ H4 { s4 with heap := s4.heap.push { cls := .type "slice", data := .fields #[vl, vu, w4] } } := I4.kept (t' := s4.toks) fun b ob q => Heap.get?_push_of_some _ q
    obtain ⟨its, r, ht, hz⟩ := I5.tuple hs
    have hlen := r.length
    show wpAny (model X.prog X.w) X.A (subscriptTail e (.Slice none none (some (.UnaryOp .USub (.Constant (.int 1) k p1) p2)) p3) (.ref a) (.ref s4.heap.objs.size)) (EP X pins σ Q) X.xe { s4 with heap := s4.heap.push { cls := .type "slice", data := .fields #[vl, vu, w4] } }
    refine tail_any (ops := [.ref a, .ref s4.heap.objs.size]) ht.typeIs (PyProof.Rows.slot_tuple_getitem.lookup) ?_ (by with_unfolding_all rfl)
    refine getRev ht (Heap.IsSliceOf.new _ vl vu w4) pl pu ps ?_ (by rw [List.size_toArray]; omega)
    have hp := I5.hok.fresh (Nat.le_refl _)
    refine ⟨.ref _, _, I5.laid (t' := s4.toks) (o := .tup vs.reverse) (fun b ob q => Heap.get?_push_of_some _ q) (Nat.le_refl _) ?_, rfl, c _ _ _ G1 (k1.trans (.lay hp)) (A1.lay hp) (.tup (SqT.of upd_same) (hr.reverse.keep A1 (.lay hp))) q1⟩
    exact ⟨by rw [List.length_reverse]; exact hz, its.reverse, r.reverse, IsTup.new _ _⟩
  | _ => exact q1.elim
end SD

set_option Elab.async false
set_option linter.all false
set_option maxRecDepth 100000
set_option maxHeartbeats 4000000
namespace SD
open PySem PySem.Spec PyProof.Rows L2
variable {X : Cx}

/-! ### enumerate(t), t a tuple -/
theorem meets_enum1 {v : Value} {o : Obj} {H : Heap → Prop} (B : Begins v o H) : Meets (Builtin.«enumerate.__new__» ⟨[.type "enumerate", v], []⟩) (fun _ R s => H s.heap ∧
    R (.ok (.ret (.ref (s.heap.push o).objs.size))) { s with heap := (s.heap.push o).push { cls := .type "enumerate", data := .fields #[.none, .bool false, .ref s.heap.objs.size, rawInt 0, .none, .none] } }) :=
  .of_wp fun prog w A R s h => by
    obtain ⟨hp, g, d, tk, os⟩ := s; obtain ⟨h1, h⟩ := h
    have hsub := sub_enumerate
    have q1 : ∀ {A' : Around} {E : Value → Shared → Prop} {Q : Value → Shared → Prop}, Q (.ref hp.objs.size) ⟨hp.push o, g, d, tk, os⟩ → wpAny (model prog w) A' (pyIter v) Q E ⟨hp, g, d, tk, os⟩ := fun q => B.iter prog w _ _ ⟨hp, g, d, tk, os⟩ _ h1 q
    wp_walk using q1
    refine wpAny_stack_any fun st => wpAny_pure ?_
    split
    · rename_i c _ _ _ _ _
      cases (c == Value.type "enumerate") <;> (wp_walk using q1; exact ⟨_, rfl, h⟩)
    · wp_walk using q1; exact ⟨_, rfl, h⟩
theorem enum1 {P : Program} {w : World} {A : Around} {E : Value → Shared → Prop} {s : Shared} {v : Value} {o : Obj} {H : Heap → Prop} {Q : Value → Shared → Prop} (B : Begins v o H) (h1 : H s.heap)
    (h : ∀ h', IsEnum h' (s.heap.objs.size + 1) s.heap.objs.size 0 .none → h'.get? s.heap.objs.size = some o → h'.objs.size = s.heap.objs.size + 2 → (∀ b o, s.heap.get? b = some o → h'.get? b = some o) → Q (.ref (s.heap.objs.size + 1)) { s with heap := h' }) :
    wpAny (model P w) A (call (.type "enumerate") [v]) Q E s := by
  refine callType_new PySem.F.called_enumerate (by decide) (PySem.F.typeCall_enumerate_1 _) (PySem.F.newCall_enumerate_1 _) (fun obj => PySem.F.args_object_init_2 obj _) PySem.F.entry_enumerate_new (meets_enum1 B) ⟨h1, ?_⟩
  have hz : (s.heap.push o).objs.size = s.heap.objs.size + 1 := Heap.size_push ..
  show _ ∧ _
  rw [hz]
  have he : IsEnum ((s.heap.push o).push { cls := .type "enumerate", data := .fields #[.none, .bool false, .ref s.heap.objs.size, rawInt 0, .none, .none] }) (s.heap.objs.size + 1) s.heap.objs.size 0 .none := by
    have := Heap.get?_push_size (s.heap.push o) (o := { cls := .type "enumerate", data := .fields #[.none, .bool false, .ref s.heap.objs.size, rawInt 0, .none, .none] }) rfl
    rw [hz] at this; exact this
  exact ⟨⟨_, he, rfl⟩, h _ he (Heap.get?_push_of_some _ (Heap.get?_push_size _ B.free)) (by rw [Heap.size_push, hz]) fun b o x => Heap.get?_push_of_some _ (Heap.get?_push_of_some _ x)⟩
/-- the tuple at a, each item in a new pair -/
def ItN (K : PySem.W.Frag) (a : Addr) (vs : List V) : It :=
  ⟨fun i H => SqT K H a vs ∧ i < vs.length, fun i H v H' => ∃ T x, v = .ref T ∧ H T = none ∧ H' = upd H T (.tup [.int (i : Nat), x]) ∧ vs[i]? = some x, fun i H => SqT K H a vs ∧ vs.length ≤ i⟩
theorem turn_enT {P : Program} {w : World} {K : PySem.W.Frag} {elts : List Expr} {kk : Nat} {tpos : Pos} {vs : List V} (a e it : Addr) :
    Turn P w K (.Tuple elts kk tpos) (ItN K a vs) [e, it] e (fun i h => (∃ old, IsEnum h e it ((i : Nat) : Int) old) ∧ h.IsTupleIter it a i ∧ e ≠ it ∧ a ≠ it ∧ a ≠ e) where
  mem := by simp
  obj := fun i h st b hb => by
    obtain ⟨⟨old, he⟩, ⟨o, ho, hc, hd⟩, _⟩ := st
    have e' : b = e ∨ b = it := by simpa using hb
    rcases e' with z | z
    · rw [z]; exact ⟨_, he, fun v q => nomatch q⟩
    · rw [z]; exact ⟨o, ho, fun v q => by rw [hd] at q; cases q⟩
  keep := fun i h h' st k => let ⟨⟨old, he⟩, hi, hne, n2⟩ := st; ⟨⟨old, k e (by simp) _ he⟩, hi.at fun o q => k it (by simp) o q, hne, n2⟩
  item := by
    intro X hP hw hK hc i pins s σ H E I hf st hg
    subst hP hw hK
    obtain ⟨⟨old, he⟩, hit, hne, n2, n3⟩ := st
    obtain ⟨hq, hlt⟩ := hg
    obtain ⟨its, rv, p, hz⟩ := I.tuple hq
    obtain ⟨u, hu, ru⟩ := rv.get (List.getElem?_eq_getElem hlt)
    have hlen := rv.length
    have hel : e < s.heap.objs.size := Heap.lt_size he
    have hil : it < s.heap.objs.size := by obtain ⟨_, q, _⟩ := hit; exact Heap.lt_size q
    have D : Draws X.prog X.w X.A.in1 it [it, a] its.toArray.size (fun i v => its.toArray[i]? = some v) (fun i h => h.IsTupleIter it a i ∧ h.IsTuple a its.toArray) := Draws.tuple (A := X.A.in1) (show X.A.in1.handled = none from I.ok.hd hc) it a n2 its.toArray
    refine wpAny_pyNext_enum_itemC D he ⟨hit, p⟩ (by simp; omega) hne (by simp; exact ⟨hne, n3.symm⟩) fun x h' tk hx ho hs' hT hsz hk => ?_
    have ex : x = u := by
      have q1 : its[i]? = some x := by simpa using hx
      rw [hu] at q1; exact (Option.some.inj q1).symm
    subst ex
    refine ⟨_, rfl, wpAny_letOwnedTupleGo_enum (s := { s with heap := h', toks := tk + 1 }) ho fun h'' he' sb => ?_⟩
    have hT2 : h''.get? s.heap.objs.size = some { cls := .type "tuple", data := .seq #[.int i tk, x] } := (sb.2 _ (Nat.ne_of_gt hel)).trans hT
    have new : ObjOk X.prog X.w (upd H s.heap.objs.size (.tup [.int (i : Nat), vs[i]])) h'' s.heap.objs.size (.tup [.int (i : Nat), vs[i]]) :=
      ⟨by show 2 ≤ sizeLine; decide, [.int i tk, x], .cons ⟨_, rfl⟩ (.cons ru .nil), ⟨_, hT2, rfl, _, rfl⟩⟩
    have I1 : Inv X pins σ (upd H s.heap.objs.size (.tup [.int (i : Nat), vs[i]])) { s with heap := h'', toks := tk + 1 } :=
      I.turnedNew (ch := [e, it]) (fun b ob hb q => (sb.2 b (fun z => hb (by simp [z]))).trans (hk b ob (fun z => hb (by simp [z])) (fun z => hb (by simp [z])) q)) hf (Nat.le_refl _) new
    refine ⟨.ref s.heap.objs.size, _, I1, rfl, ⟨_, vs[i], rfl, I.hok.fresh (Nat.le_refl _), rfl, List.getElem?_eq_getElem hlt⟩, ⟨⟨x, ?_⟩, hs'.1.at fun o q => (sb.2 it (Ne.symm hne)).trans q, hne, n2, n3⟩, fun b hb => ?_⟩
    · have e1 : ((i + 1 : Nat) : Int) = (i : Int) + 1 := by omega
      rw [e1]; exact he'
    · have hb' : b < s.heap.objs.size := by
        have e' : b = e ∨ b = it := by simpa using hb
        rcases e' with z | z
        · rw [z]; exact hel
        · rw [z]; exact hil
      rw [upd_ne (Nat.ne_of_lt hb')]
      exact (hf b hb).1
  done := by
    intro X hP hw hK hc i pins s σ H E I hf st hg
    subst hP hw hK
    obtain ⟨⟨old, he⟩, hit, hne, n2, n3⟩ := st
    obtain ⟨hq, hx⟩ := hg
    obtain ⟨its, rv, p, hz⟩ := I.tuple hq
    obtain ⟨f0, f1, f2, f3, f4, f5⟩ := hf it (by simp)
    have hl := rv.length
    have no : its.toArray[i]? = none := by simp; omega
    have D : Draws X.prog X.w X.A.in1 it [it, a] i (fun _ _ => True) (fun j h => j = i ∧ h.IsTupleIter it a i ∧ h.IsTuple a its.toArray) :=
      { live := fun _ _ st => let ⟨o, ho, _⟩ := st.2.1; ⟨o, ho⟩
        frame := fun _ _ _ st hk => ⟨st.1, st.2.1.at fun o e => hk it (by simp) o e, st.2.2.at fun o e => hk a (by simp) o e⟩
        item := fun j s Q E hj st _ => absurd st.1 (Nat.ne_of_lt hj)
        done := fun s Q E st hE => wpAny_nextOf_tuple_end (I.ok.hd hc) st.2.1 st.2.2 no hE }
    exact wpAny_pyNext_enum_endD D he ⟨rfl, hit, p⟩ fun h' eb => ⟨rfl, I.turned (t' := s.toks) (fun b o hb q => eb b o hb q) f0 f1 f3 f4 f5⟩
  self := fun A i s Q E st h => let ⟨⟨_, he⟩, _⟩ := st; wpAny_pyIter_enum he h
def iEnT (K : PySem.W.Frag) (te : TE) : TI := fun σ H R => te σ H fun v H1 => ∃ a vs, v = .ref a ∧ SqT K H1 a vs ∧ R (ItN K a vs) H1
theorem pi_enT {e : Expr} {te : TE} {p pos tpos : Pos} {elts : List Expr} {kk : Nat} (hg : Gl X "enumerate") (hm : X.mg "enumerate" = none) (he : PE X e te) (hs : starEach [e] X.env = (false, eval e X.env) :: starEach [] X.env := by rfl) :
    PI X (.Tuple elts kk tpos) (.Call (.Name "enumerate" p) [e] [] pos) (iEnT X.K te) := by
  refine ⟨fun pins s σ H R I h => ?_⟩
  refine Call_ (ld_blt I hg hm boot_enumerate (PyProof.Rows.callWith_type1 (args_cons (thn (he.run pins s σ H _ I h) fun u s1 ⟨x, H1, I1, r1, q1⟩ => args_nil ?_) hs) hs rfl))
  obtain ⟨a, vs, ex, hq, q⟩ := q1
  subst ex
  cases r1
  obtain ⟨its, rv, p', hz⟩ := I1.tuple hq
  have hal : a < s1.heap.objs.size := by obtain ⟨o, ho, _⟩ := p'; exact Heap.lt_size ho
  refine enum1 (begins_tuple a its.toArray) p' fun h' hE hit hsz hk => wpAny_pyIter_enum hE ?_
  have I2 : Inv X pins σ H1 { s1 with heap := h' } := I1.kept (t' := s1.toks) hk
  refine ⟨s1.heap.objs.size + 1, [s1.heap.objs.size + 1, s1.heap.objs.size], _, _, H1, rfl, I2, turn_enT (vs := vs) a (s1.heap.objs.size + 1) s1.heap.objs.size, ⟨⟨.none, hE⟩, ⟨_, hit, rfl, rfl⟩, Nat.succ_ne_self _, Nat.ne_of_lt hal, Nat.ne_of_lt (Nat.lt_succ_of_lt hal)⟩, fun b hb => ?_, q⟩
  have e' : b = s1.heap.objs.size + 1 ∨ b = s1.heap.objs.size := by simpa using hb
  have hle : s1.heap.objs.size ≤ b := by
    rcases e' with z | z
    · rw [z]; exact Nat.le_succ _
    · rw [z]; exact Nat.le_refl _
  exact I1.fpOk hle (I1.hok.fresh hle)
def enD : Nat → List D → List D
  | _, [] => []
  | i, d :: r => .tup [.int i, d] :: enD (i + 1) r
theorem enD_len : ∀ (ds : List D) (i : Nat), (enD i ds).length = ds.length
  | [], _ => rfl
  | _ :: r, i => by show (enD (i + 1) r).length + 1 = r.length + 1; rw [enD_len r]
theorem enD_get : ∀ (ds : List D) (i j : Nat), (enD i ds)[j]? = ds[j]?.map fun d => .tup [.int ((i + j : Nat) : Int), d]
  | [], _, _ => by simp [enD]
  | d :: r, i, 0 => by simp [enD]
  | d :: r, i, j + 1 => by
    show (enD (i + 1) r)[j]? = _
    rw [enD_get r]
    simp only [List.getElem?_cons_succ]
    rw [show i + 1 + j = i + (j + 1) by omega]
/-- enumerate(t) -/
def iEn (t : TE2) : TI2 := fun δ G R => t δ G fun d G1 => match d with
  | .tup ds => R (enD 0 ds) (fun _ => True) G1
  | _ => False
theorem DWalk.en {F : Fx} {H : Hp} {G : Gp} (A0 : AbsG F H G) {a : Addr} {vs : List V} {ds : List D} (hs : SqT F.K H a vs) (r : DVs F H vs ds) : DWalk F H G (ItN F.K a vs) (enD 0 ds) (fun _ => True) where
  go := fun i H1 G1 e k A g h => by
    rw [enD_get] at h
    obtain ⟨d, hd, rfl⟩ := Option.map_eq_some_iff.mp h
    obtain ⟨v, hv, rv⟩ := r.get hd
    have hi : i < vs.length := (List.getElem?_eq_some_iff.mp hv).1
    refine ⟨⟨SqT.keep A0 k hs, hi⟩, fun x H' y => ?_⟩
    obtain ⟨T, x', rfl, hT, rfl, hx⟩ := y
    rw [hv] at hx; cases hx
    refine ⟨.lay hT, A.lay hT, .tup (SqT.of upd_same) (.cons ?_ (.one ((rv.keep A0 k).keep A (.lay hT))))⟩
    rw [Nat.zero_add]; exact .int _
  stop := fun i H1 G1 k A g h => ⟨SqT.keep A0 k hs, by rw [enD_len] at h; rw [r.length]; exact h⟩
theorem pi_en {e : Expr} {te : TE2} {p pos tpos : Pos} {elts : List Expr} {kk : Nat} (hg : Gl X "enumerate") (hm : X.mg "enumerate" = none) (he : PE2 X e te) (hs : starEach [e] X.env = (false, eval e X.env) :: starEach [] X.env := by rfl) :
    PI2 X (.Tuple elts kk tpos) (.Call (.Name "enumerate" p) [e] [] pos) (iEn te) := (pi_enT hg hm he hs).imp fun σ H R ⟨δ, G, R2, A, t, c⟩ =>
  ⟨δ, G, _, A, t, fun v H1 d G1 k1 A1 r1 q1 => by
    cases r1 with
    | @tup a vs ds hs hr => exact ⟨a, vs, rfl, hs, c _ _ _ H1 G1 k1 A1 (.en A1 hs hr) q1⟩
    | _ => exact q1.elim⟩
end SD

set_option Elab.async false
set_option linter.all false
set_option maxRecDepth 100000
namespace SD
open PySem PySem.Spec PyProof.Rows L2

/-! ## functions -/
def sub (G G' : Gp) : Prop := ∀ a m, G a = some m → G' a = some m
theorem sub.refl {G : Gp} : sub G G := fun _ _ h => h
theorem sub.trans {G G1 G2 : Gp} (a : sub G G1) (b : sub G1 G2) : sub G G2 := fun c m h => b c m (a c m h)
theorem sub.put {G G1 : Gp} (a : sub G G1) {p : Addr} {m : MO} (h : G1 p = none) : sub G (gput G1 p m) := fun c n e => by
  have hc : c ≠ p := fun z => by rw [z] at e; rw [a _ _ e] at h; cases h
  rw [gput_ne hc]; exact a _ _ e
theorem sub.none {G G1 : Gp} (a : sub G G1) {p : Addr} (h : G1 p = none) : G p = none := by
  cases e : G p with
  | none => rfl
  | some m => rw [a _ _ e] at h; cases h
/-- what a call forgets at its end -/
def endK (Q : VK2) : VK2 := fun d G' => ∃ G1, sub G1 G' ∧ Q d G1
theorem endK.now {Q : VK2} {d : D} {G G' : Gp} (s : sub G G') (h : Q d G) : endK Q d G' := ⟨G, s, h⟩
structure FnD where
  ar : Nat
  ns : Nat
  bd : (Nat → Sem2) → TS2
def st0 (f : FnD) (ds : List D) : St2 := ds.map some ++ List.replicate (f.ns - ds.length) none
def runF (f : FnD) (W : Nat → Sem2) : Sem2 := fun ds G Q => ds.length = f.ar ∧ f.bd W { nx := fun _ G' => endK Q .non G', rt := endK Q } (st0 f ds) G
def WF (T : Nat → FnD) : Nat → Nat → Sem2
  | 0, _ => fun _ _ _ => False
  | k + 1, i => runF (T i) (WF T k)
def spD (F : Fx) (n : Nat) (r : Sem2) : Sp := fun vs H Q _ => vs.length = n ∧ liftC F r vs H Q
theorem Co.endK {F : Fx} {H : Hp} {G : Gp} {Q2 : VK2} {Q : VK} (c : Co F H G Q2 Q) : Co F H G (SD.endK Q2) Q := fun v H' d G' k A r ⟨G1, s, q⟩ => by
  refine c v H' d G1 ⟨fun b o e n => ⟨(k.old b o e n).1, ?_⟩, k.frz⟩ (A.sub s) r q
  cases e1 : G1 b with
  | none => rfl
  | some m => have := s b m e1; rw [(k.old b o e n).2] at this; cases this
structure Callee (X : Cx) (k : Nat) (x : Str) (n : Nat) (r : Sem2) : Prop where
  ok : ∃ f fd ps, FnOk X.prog X.w X.K X.mg X.base CX0 k f fd ps (spD X.fx n r) ∧ X.mg x = some (.ref f) ∧ PySem.W.keepIn X.K (.ref f) = true ∧ Binds X.K fd ps []
section
variable {X : Cx}
theorem pd_call {k n : Nat} {x : Str} {r : Sem2} {e : Expr} {es : List Expr} {t : TA2} {p pos : Pos} (c : Callee X k x n r) (hr : Room k X.A) (hg : Gl X x) (ha : PA2 X (e :: es) n t) (hdb : (x == ("__debug__" : Str)) = false := by decide)
    (he : starEach (e :: es) X.env = (false, eval e X.env) :: starEach es X.env := by rfl) (hpl : (backTo pos (starEach es X.env)).any (·.1) = false := by rfl) : PE2 X (.Call (.Name x p) (e :: es) [] pos) (dCall r t) := by
  obtain ⟨f, fd, ps, F, hm, hk, hb⟩ := c.ok
  refine (pe_call F hr hg hm hk hb .nil pass0 ha hdb he hpl).imp fun σ H Q ⟨δ, G, Q2, A, t, c⟩ => ?_
  refine ⟨δ, G, _, A, t, fun vs H1 ds G1 k1 A1 r1 hl q1 => ?_⟩
  show spD X.fx n r (vs ++ []) H1 Q E0
  rw [List.append_nil]
  exact ⟨by rw [r1.length]; exact hl, ds, G1, Q2, A1, r1, q1, c.trans k1⟩
end
theorem SV.start {F : Fx} {H : Hp} {vs : List V} {ds : List D} (h : DVs F H vs ds) (n : Nat) : SV F H (vs.map some ++ List.replicate n none) (ds.map some ++ List.replicate n none) := by
  have rep : ∀ n, SV F H (List.replicate n none) (List.replicate n none) := by
    intro n
    induction n with
    | zero => exact .nil
    | succ n ih => exact .cons trivial ih
  have key : ∀ (vs : List V) (ds : List D), DVs F H vs ds → SV F H (vs.map some ++ List.replicate n none) (ds.map some ++ List.replicate n none) := by
    intro vs
    induction vs with
    | nil => intro ds h; cases h; exact rep n
    | cons v vs ih =>
      intro ds h
      cases h with
      | cons r t => exact .cons ⟨v, rfl, r⟩ (ih _ t)
  exact key vs ds h
section
variable {P : Program} {w : World} {K : PySem.W.Frag} {mg : Str → Option Value} {base : Heap}
theorem FnOk.zero {f : Addr} {fd : FuncData} {ps : List Str} {F : Fx} {n i : Nat} {T : Nat → FnD} : FnOk P w K mg base CX0 0 f fd ps (spD F n (WF T 0 i)) :=
  ⟨fun vs H Q E ⟨_, ds, G, Q2, _, _, q, _⟩ => q.elim, fun A outer s H args us vs Q E _ _ _ _ ⟨_, ds, G, Q2, _, _, q, _⟩ => q.elim⟩
theorem FnOk.succ {x qual : Str} {st : Stmt} {f : Addr} {fd : FuncData} {N ps : List Str} {k i : Nat} {T : Nat → FnD} (F : Fun K x qual st f fd) (S : FnScope N ps (defScope st)) (hp : ps.length = (T i).ar) (hN : N.length = (T i).ns)
    (hbody : ∀ (cdv : Value) (A : Around) (outer : List Env) (s : Shared) (H : Hp) (E : XK), Room k (A.deeper (envOfC qual (defScope st) s.heap.objs.size f cdv)) →
      PSs2 (cxOf CX0 P w K mg base N qual (defScope st) f cdv A outer s H E).nox (defBody st) ((T i).bd (WF T k))) : FnOk P w K mg base CX0 (k + 1) f fd ps (spD ⟨P, w, K⟩ (T i).ar (WF T (k + 1) i)) := by
  refine F.ok S (fun vs H Q E h => by rw [h.1, hp]) (fun cdv A outer s H vs Q E hr h => ?_)
  refine ⟨_, hbody cdv A outer s H E hr, ?_⟩
  obtain ⟨hl, ds, G, Q2, ab, r, ⟨_, q⟩, c⟩ := h
  refine ⟨st0 (T i) ds, G, _, ⟨?_, ab⟩, q, ?_⟩
  · unfold L2.start st0
    rw [hN, ← r.length]
    exact SV.start r _
  · exact ⟨fun σ H' δ G' k A q => c.endK .non H' .non G' k A.hp .non q, c.endK, fun _ _ _ _ _ _ q => q.elim, fun _ _ _ _ _ _ q => q.elim⟩
end
/-- the script -/
theorem Only.scr {F : Fx} {H : Hp} {a : Addr} {ns : List Int} (hO : Only H) (h : SqL F.K H a (ns.map V.int)) : Sc F H a (ns.map V.int) := by
  rcases h with (h | h) | h
  · rcases hO a with e | ⟨o, xs, e⟩
    · rw [h] at e; cases e
    · rw [h] at e; cases e
  · exact .inl h
  · exact .inr h
def spLawD (K : PySem.W.Frag) : Sp := fun vs H Q _ => ∃ (a : Addr) (ns : List Int), vs = [.ref a] ∧ Only H ∧ SqL K H a (ns.map V.int) ∧ ns.length ≤ 63 ∧ (∀ z ∈ ns, Builtin.Int.intBits z ≤ 1048576) ∧ ∀ H', Q (.bl true) H'
theorem lawD {P : Program} {w : World} {K : PySem.W.Frag} {r : Sem2} (h : ∀ ns : List Int, ns.length ≤ 63 → (∀ z ∈ ns, Builtin.Int.intBits z ≤ 1048576) → r [.scr ns] (fun _ => none) fun d _ => d = .bl true) (vs : List V) (H : Hp) (Q : VK) (E : XK) (q : spLawD K vs H Q E) : spD ⟨P, w, K⟩ 1 r vs H Q E := by
  obtain ⟨a, ns, rfl, hO, hS, hl, hb, q⟩ := q
  refine ⟨rfl, [.scr ns], fun _ => none, _, (fun _ _ e => by cases e), .one (.scr (Only.scr hO hS)), h ns hl hb, fun v H' d G' _ _ r e => ?_⟩
  subst e
  cases r
  exact q H'
end SD

set_option Elab.async false
set_option linter.all false
set_option maxRecDepth 100000
namespace SD
open PySem PySem.Spec PyProof.Rows L2
variable {X : Cx}
def oMul : R22 := fun x y G Q => match x, y with
  | .int i, .int j => CMulW i j ∧ Q (.int (i * j)) G
  | .tup ds, .int k => ds ≠ [] ∧ 1 ≤ k ∧ k ≤ 1000 ∧ ds.length ≤ 1000 ∧ Q (.tup (List.replicate k.toNat ds).flatten) G
  | _, _ => False
theorem op_mul2 : OpR2 X (binaryOp .Mult) oMul :=
  OpR2.or (r1 := oI CMulW fun i j => .int (i * j)) (r2 := oRepT) (OpR2.of op_mulW (rel_I fun _ _ _ => .int _)) op_repT2 fun x y G Q q => by
    unfold oMul at q
    split at q
    · exact .inl q
    · exact .inr q
    · exact q.elim
def dNeg (ta : TE2) : TE2 := fun δ G Q => ta δ G fun d G1 => match d with
  | .int i => Q (.int (-i)) G1
  | _ => False
theorem pd_neg {a : Expr} {ta : TE2} {pos : Pos} (ha : PE2 X a ta) : PE2 X (.UnaryOp .USub a pos) (dNeg ta) :=
  (pe_un un_neg ha).imp fun σ H Q ⟨δ, G, Q2, A, t, c⟩ => ⟨δ, G, _, A, t, fun v H1 d G1 k1 A1 r1 q1 => by
    cases r1 with
    | int i => exact ⟨i, rfl, c _ H1 _ G1 k1 A1 (.int _) q1⟩
    | _ => exact q1.elim⟩
/-- tests as a value -/
abbrev pt_w {e : Expr} {t : TT2} (h : PW2 X e t) : PT2 X e t := h.pt
theorem _root_.L2.Room.u65 {k : Nat} {A : Around} (r : Room k A) : A.units + 65 < cLine := by have := r.un; omega
end SD

set_option Elab.async false
set_option linter.all false
set_option maxRecDepth 100000
namespace SD
open PySem PySem.Spec PyProof.Rows L2

theorem sub.upd {G G1 : Gp} (a : sub G G1) {p : Addr} {m : MO} (h : G p = Option.none) : sub G (gput G1 p m) := fun c n e => by
  have hc : c ≠ p := fun z => by rw [z, h] at e; cases e
  rw [gput_ne hc]; exact a _ _ e
/-- how many draws there may be -/
@[irreducible] def bigN : Nat := 1000000000
theorem bigN_eq : bigN = 1000000000 := by unfold bigN; rfl
theorem eqB_int {G : Gp} {a b : Int} : eqB G (.int a) (.int b) = some (decide (a = b)) := by
  have e : eqB G (.int a) (.int b) = if lev (.int a) ≤ 60 ∧ lev (.int b) ≤ 60 then some (decide (D.int a = D.int b)) else none := rfl
  rw [e, if_pos ⟨by simp [lev], by simp [lev]⟩]
  by_cases h : a = b <;> simp [h]
theorem eqB_bl {G : Gp} {a b : Bool} : eqB G (.bl a) (.bl b) = some (decide (a = b)) := rfl
theorem eqB_str {G : Gp} {a b : String} : eqB G (.str a) (.str b) = some (decide (a = b)) := by
  have e : eqB G (.str a) (.str b) = if lev (.str a) ≤ 60 ∧ lev (.str b) ≤ 60 then some (decide (D.str a = D.str b)) else none := rfl
  rw [e, if_pos ⟨by simp [lev], by simp [lev]⟩]
  by_cases h : a = b <;> simp [h]
theorem ixN_nat {n i : Nat} : ixN n (i : Int) = if i < n then some i else none := by
  unfold ixN
  rw [if_pos (by omega)]
  by_cases h : i < n
  · rw [if_pos (by omega), if_pos h]; simp
  · rw [if_neg (by omega), if_neg h]
theorem ixN_0 {n : Nat} : ixN (n + 1) 0 = some 0 := by have := ixN_nat (n := n + 1) (i := 0); rw [if_pos (by omega)] at this; exact this
theorem ixN_1 {n : Nat} : ixN (n + 1 + 1) 1 = some 1 := by have := ixN_nat (n := n + 1 + 1) (i := 1); rw [if_pos (by omega)] at this; exact this
theorem ixN_2 {n : Nat} : ixN (n + 1 + 1 + 1) 2 = some 2 := by have := ixN_nat (n := n + 1 + 1 + 1) (i := 2); rw [if_pos (by omega)] at this; exact this
theorem ixN_3 {n : Nat} : ixN (n + 1 + 1 + 1 + 1) 3 = some 3 := by have := ixN_nat (n := n + 1 + 1 + 1 + 1) (i := 3); rw [if_pos (by omega)] at this; exact this
theorem ixN_4 {n : Nat} : ixN (n + 1 + 1 + 1 + 1 + 1) 4 = some 4 := by have := ixN_nat (n := n + 1 + 1 + 1 + 1 + 1) (i := 4); rw [if_pos (by omega)] at this; exact this
theorem at_nat {α : Type} {xs : List α} {i : Nat} : atI xs (i : Int) = xs[i]? := by
  unfold atI
  rw [ixN_nat]
  by_cases h : i < xs.length
  · rw [if_pos h]; rfl
  · rw [if_neg h]; simp at h; simp [h]
theorem atI_0 {α : Type} {x : α} {xs : List α} : atI (x :: xs) 0 = some x := by have := at_nat (xs := x :: xs) (i := 0); simpa using this
theorem atI_1 {α : Type} {x y : α} {xs : List α} : atI (x :: y :: xs) 1 = some y := by have := at_nat (xs := x :: y :: xs) (i := 1); simpa using this
theorem atI_2 {α : Type} {x y z : α} {xs : List α} : atI (x :: y :: z :: xs) 2 = some z := by have := at_nat (xs := x :: y :: z :: xs) (i := 2); simpa using this
theorem atI_3 {α : Type} {x y z t : α} {xs : List α} : atI (x :: y :: z :: t :: xs) 3 = some t := by have := at_nat (xs := x :: y :: z :: t :: xs) (i := 3); simpa using this
theorem atI_4 {α : Type} {x y z t u : α} {xs : List α} : atI (x :: y :: z :: t :: u :: xs) 4 = some u := by have := at_nat (xs := x :: y :: z :: t :: u :: xs) (i := 4); simpa using this
/-! ## the plain side: loops by what they keep -/
theorem lc_pure {g : TG2} {tt : TT2} {te : TE2} {C : Gp → Prop} {δw : St2} {G : Gp} {Q : List D → Gp → Prop} (f : D → Option D) (hC : C G) : ∀ (ds acc : List D),
    (∀ x ∈ ds, ∀ (R1 : D → Gp → Prop) (R0 : Gp → Prop), (match f x with | some y => R1 y G | none => R0 G) → g x δw G fun δ2 G2 => tt δ2 G2 fun c G3 => if c = true then te δ2 G3 R1 else R0 G3) →
    Q (acc ++ ds.filterMap f) G → lcW g tt te C δw Q ds acc G
  | [], acc, _, q => ⟨hC, by simpa using q⟩
  | x :: r, acc, h, q => by
    refine ⟨hC, h x List.mem_cons_self (fun y G4 => lcW g tt te C δw Q r (acc ++ [y]) G4) (fun G3 => lcW g tt te C δw Q r acc G3) ?_⟩
    rw [List.filterMap_cons] at q
    cases e : f x with
    | none => rw [e] at q; exact lc_pure f hC r acc (fun y hy => h y (List.mem_cons_of_mem _ hy)) q
    | some y => rw [e] at q; exact lc_pure f hC r (acc ++ [y]) (fun z hz => h z (List.mem_cons_of_mem _ hz)) (by rw [List.append_assoc]; exact q)
/-- a comprehension whose turns may change the heap -/
theorem lc_inv {g : TG2} {tt : TT2} {te : TE2} {C : Gp → Prop} {δw : St2} {Q : List D → Gp → Prop} {ds : List D} (I : List D → List D → Gp → Prop)
    (h : ∀ pre x post acc G, ds = pre ++ x :: post → I pre acc G → C G ∧ ∀ (R1 : D → Gp → Prop) (R0 : Gp → Prop), (∀ y G', I (pre ++ [x]) (acc ++ [y]) G' → R1 y G') → (∀ G', I (pre ++ [x]) acc G' → R0 G') →
      g x δw G fun δ2 G2 => tt δ2 G2 fun c G3 => if c = true then te δ2 G3 R1 else R0 G3)
    (fin : ∀ acc G, I ds acc G → C G ∧ Q acc G) : ∀ (post pre acc : List D) (G : Gp), ds = pre ++ post → I pre acc G → lcW g tt te C δw Q post acc G
  | [], pre, acc, G, e, i => fin acc G (by rw [e, List.append_nil]; exact i)
  | x :: r, pre, acc, G, e, i => by
    obtain ⟨hC, hb⟩ := h pre x r acc G e i
    have e' : ds = (pre ++ [x]) ++ r := by rw [e]; simp
    exact ⟨hC, hb _ _ (fun y G' i' => lc_inv I h fin r (pre ++ [x]) (acc ++ [y]) G' e' i') fun G' i' => lc_inv I h fin r (pre ++ [x]) acc G' e' i'⟩
theorem for_inv {g : TG2} {tb : TS2} {C : Gp → Prop} {E : En2} {ds : List D} (I : List D → St2 → Gp → Prop)
    (h : ∀ pre x post δ G, ds = pre ++ x :: post → I pre δ G → C G ∧ ∀ (nx : St2 → Gp → Prop), (∀ δ' G', I (pre ++ [x]) δ' G' → nx δ' G') → g x δ G fun δ' G' => tb { E with nx := nx, ct := nx, bk := E.nx } δ' G')
    (fin : ∀ δ G, I ds δ G → C G ∧ E.nx δ G) : ∀ (post pre : List D) (δ : St2) (G : Gp), ds = pre ++ post → I pre δ G → dForW g tb C E post δ G
  | [], pre, δ, G, e, i => fin δ G (by rw [e, List.append_nil]; exact i)
  | x :: r, pre, δ, G, e, i => by
    obtain ⟨hC, hb⟩ := h pre x r δ G e i
    have e' : ds = (pre ++ [x]) ++ r := by rw [e]; simp
    exact ⟨hC, hb _ fun δ' G' i' => for_inv I h fin r (pre ++ [x]) δ' G' e' i'⟩
theorem while_inv {c : TT2} {tb : TS2} {D : En2} (I : Nat → St2 → Gp → Prop)
    (h : ∀ m δ G (nx : St2 → Gp → Prop), I m δ G → (∀ m', m' < m → ∀ δ' G', I m' δ' G' → nx δ' G') → c δ G fun b G1 => if b = true then tb { D with nx := nx, ct := nx, bk := D.nx } δ G1 else D.nx δ G1) {m : Nat} {δ : St2} {G : Gp} (i : I m δ G) : dWhile c tb D δ G := by
  have key : ∀ n m δ G, m < n → I m δ G → dWhN c tb D n δ G := by
    intro n
    induction n with
    | zero => intro m δ G hm; omega
    | succ n ih => intro m δ G hm i; exact h m δ G (dWhN c tb D n) i fun m' hm' δ' G' i' => ih m' δ' G' (by omega) i'
  exact ⟨m + 1, key _ m δ G (by omega) i⟩
/-- {k: v for ..}, whole numbers as keys -/
theorem dc_pure {b : Bool} {g : TG2} {tt : TT2} {tk tv : TE2} {C : Gp → Prop} {δw : St2} {G : Gp} {Q : List (D × D) → Gp → Prop} (f : D → Option (D × D)) (hC : C G) : ∀ (ds : List D) (acc : List (D × D)),
    (∀ x ∈ ds, ∀ (R1 : D → D → Gp → Prop) (R0 : Gp → Prop), (match f x with | some y => R1 y.1 y.2 G | none => R0 G) → g x δw G fun δ2 G2 => tt δ2 G2 fun c G3 => if c = true then tk δ2 G3 fun y G4 => tv δ2 G4 fun z G5 => R1 y z G5 else R0 G3) →
    (∀ x ∈ ds, ∀ y, f x = some y → KeyC b y.1) → Q ((ds.filterMap f).foldl (fun a p => dput a p.1 p.2) acc) G → dcW b g tt tk tv C δw Q ds acc G
  | [], acc, _, _, q => ⟨hC, q⟩
  | x :: r, acc, h, hk, q => by
    refine ⟨hC, h x List.mem_cons_self (fun y z G5 => KeyC b y ∧ dcW b g tt tk tv C δw Q r (dput acc y z) G5) (fun G3 => dcW b g tt tk tv C δw Q r acc G3) ?_⟩
    rw [List.filterMap_cons] at q
    cases e : f x with
    | none => rw [e] at q; exact dc_pure f hC r acc (fun y hy => h y (List.mem_cons_of_mem _ hy)) (fun y hy => hk y (List.mem_cons_of_mem _ hy)) q
    | some y => rw [e] at q; exact ⟨hk x List.mem_cons_self y e, dc_pure f hC r _ (fun z hz => h z (List.mem_cons_of_mem _ hz)) (fun z hz => hk z (List.mem_cons_of_mem _ hz)) q⟩
/-- a statement, then the rest, by what holds between -/
theorem seq_gen {t u : TS2} {D : En2} {δ : St2} {G : Gp} (M : St2 → Gp → Prop) (h : ∀ K : St2 → Gp → Prop, (∀ δ' G', M δ' G' → K δ' G') → t { D with nx := K } δ G) (h2 : ∀ δ' G', M δ' G' → u D δ' G') : dSeq t u D δ G := h (u D) h2
theorem seq_i {t u : TS2} {D : En2} {δ : St2} {G : Gp} (h : t { D with nx := u D } δ G) : dSeq t u D δ G := h
theorem if_i {c : TT2} {t u : TS2} {D : En2} {δ : St2} {G : Gp} (h : c δ G fun b G1 => if b = true then t D δ G1 else u D δ G1) : dIfS c t u D δ G := h
end SD

set_option Elab.async false
set_option linter.all false
set_option maxRecDepth 100000
namespace SD
open PySem PySem.Spec PyProof.Rows L2
/-! ## dicts of whole numbers below n, as functions -/
open Classical in
theorem dget_eq (kvs : List (D × D)) (k : D) : dget kvs k = (kvs.find? fun p => decide (p.1 = k)).map (·.2) := by
  unfold dget
  congr 1
theorem dget_cons (p : D × D) (kvs : List (D × D)) (k : D) : dget (p :: kvs) k = if p.1 = k then some p.2 else dget kvs k := by
  rw [dget_eq, dget_eq, List.find?_cons]
  by_cases h : p.1 = k <;> simp [h]
theorem dget_none {kvs : List (D × D)} {k : D} : dget kvs k = none ↔ k ∉ kvs.map (·.1) := by
  induction kvs with
  | nil => simp [dget_nil]
  | cons p r ih =>
    rw [dget_cons]
    by_cases h : p.1 = k
    · simp [h]
    · rw [if_neg h, ih]
      simp only [List.map_cons, List.mem_cons, not_or]
      exact ⟨fun q => ⟨fun e => h e.symm, q⟩, fun q => q.2⟩
theorem dget_append {xs ys : List (D × D)} {k : D} : dget (xs ++ ys) k = (dget xs k).or (dget ys k) := by
  induction xs with
  | nil => simp [dget_nil]
  | cons p r ih =>
    rw [List.cons_append, dget_cons, dget_cons, ih]
    split <;> simp
theorem dput_eq (kvs : List (D × D)) (k v : D) : dput kvs k v = if (dget kvs k).isSome then kvs.map (fun p => if p.1 = k then (p.1, v) else p) else kvs ++ [(k, v)] := by
  unfold dput
  rfl
theorem dput_keys (kvs : List (D × D)) (k v : D) : (dput kvs k v).map (·.1) = if (dget kvs k).isSome then kvs.map (·.1) else kvs.map (·.1) ++ [k] := by
  rw [dput_eq]
  split
  · rw [List.map_map]
    refine List.map_congr_left fun p _ => ?_
    show (if p.1 = k then (p.1, v) else p).1 = p.1
    split <;> rfl
  · simp
theorem dget_mapPut (kvs : List (D × D)) (k v j : D) : dget (kvs.map fun p => if p.1 = k then (p.1, v) else p) j = if j = k then (dget kvs k).map (fun _ => v) else dget kvs j := by
  induction kvs with
  | nil => simp [dget_nil]
  | cons p r ih =>
    rw [List.map_cons, dget_cons, ih]
    by_cases h : p.1 = k
    · rw [if_pos h]
      show (if p.1 = j then some v else _) = _
      by_cases hj : j = k
      · subst hj; rw [if_pos h, if_pos rfl, dget_cons, if_pos h]; rfl
      · have : ¬ p.1 = j := fun e => hj (e.symm.trans h)
        rw [if_neg this, if_neg hj, if_neg hj, dget_cons, if_neg this]
    · rw [if_neg h]
      by_cases hj : j = k
      · subst hj; rw [if_neg h, if_pos rfl, if_pos rfl, dget_cons, if_neg h]
      · rw [if_neg hj, if_neg hj, dget_cons]
theorem dget_dput (kvs : List (D × D)) (k v j : D) : dget (dput kvs k v) j = if j = k then some v else dget kvs j := by
  rw [dput_eq]
  by_cases h : (dget kvs k).isSome
  · rw [if_pos h, dget_mapPut]
    obtain ⟨x, hx⟩ := Option.isSome_iff_exists.mp h
    split
    · rw [hx]; rfl
    · rfl
  · rw [if_neg h, dget_append, dget_cons]
    have hn : dget kvs k = none := by simpa using h
    by_cases hj : j = k
    · subst hj; rw [hn, if_pos rfl, if_pos rfl]; rfl
    · rw [if_neg (fun e => hj e.symm), if_neg hj, dget_nil]; simp
theorem dput_nodup {kvs : List (D × D)} (h : (kvs.map (·.1)).Nodup) (k v : D) : ((dput kvs k v).map (·.1)).Nodup := by
  rw [dput_keys]
  split
  · exact h
  · rename_i q
    have hn : k ∉ kvs.map (·.1) := dget_none.mp (by simpa using q)
    refine List.nodup_append.mpr ⟨h, by simp, fun a ha b hb => ?_⟩
    simp at hb
    rw [hb]; exact fun e => hn (e ▸ ha)
theorem nodup_le {α : Type} [DecidableEq α] : ∀ {a b : List α}, a.Nodup → (∀ x ∈ a, x ∈ b) → a.length ≤ b.length
  | [], _, _, _ => Nat.zero_le _
  | x :: r, b, h, s => by
    obtain ⟨h1, h2⟩ := List.nodup_cons.mp h
    have hx := s x List.mem_cons_self
    have ih := nodup_le (a := r) (b := b.erase x) h2 fun y hy => by
      have hne : y ≠ x := fun e => h1 (e ▸ hy)
      exact (List.mem_erase_of_ne hne).mpr (s y (List.mem_cons_of_mem _ hy))
    have := List.length_erase_of_mem hx
    have : 0 < b.length := List.length_pos_of_mem hx
    show r.length + 1 ≤ b.length
    omega
structure DictN (n : Nat) (kvs : List (D × D)) (f : Nat → Option D) : Prop where
  nd : (kvs.map (·.1)).Nodup
  ks : ∀ p ∈ kvs, ∃ k : Nat, k < n ∧ p.1 = .int k
  at_ : ∀ k : Nat, dget kvs (.int k) = f k
theorem intN_inj {a b : Nat} (h : D.int a = D.int b) : a = b := by injection h with h; omega
theorem DictN.len {n : Nat} {kvs : List (D × D)} {f : Nat → Option D} (d : DictN n kvs f) : kvs.length ≤ n := by
  have := nodup_le (a := kvs.map (·.1)) (b := (List.range n).map fun (i : Nat) => D.int i) d.nd fun x hx => by
    obtain ⟨p, hp, rfl⟩ := List.mem_map.mp hx
    obtain ⟨k, hk, e⟩ := d.ks p hp
    exact List.mem_map.mpr ⟨k, List.mem_range.mpr hk, e.symm⟩
  simpa using this
theorem DictN.nil (n : Nat) : DictN n [] fun _ => none := ⟨List.nodup_nil, fun _ h => by simp at h, fun _ => dget_nil⟩
theorem DictN.put {n : Nat} {kvs : List (D × D)} {f : Nat → Option D} (d : DictN n kvs f) {k : Nat} (hk : k < n) (v : D) : DictN n (dput kvs (.int k) v) fun j => if j = k then some v else f j where
  nd := dput_nodup d.nd _ _
  ks := fun p hp => by
    have : p.1 ∈ (dput kvs (.int k) v).map (·.1) := List.mem_map.mpr ⟨p, hp, rfl⟩
    rw [dput_keys] at this
    have old : p.1 ∈ kvs.map (·.1) → ∃ j : Nat, j < n ∧ p.1 = .int j := fun h => by
      obtain ⟨q, hq, e⟩ := List.mem_map.mp h
      rw [← e]; exact d.ks q hq
    split at this
    · exact old this
    · rcases List.mem_append.mp this with h | h
      · exact old h
      · exact ⟨k, hk, by simpa using h⟩
  at_ := fun j => by
    rw [dget_dput, d.at_]
    by_cases h : j = k
    · rw [if_pos h, if_pos (by rw [h])]
    · rw [if_neg h, if_neg fun e => h (intN_inj e)]
theorem DictN.congr {n : Nat} {kvs : List (D × D)} {f g : Nat → Option D} (d : DictN n kvs f) (e : ∀ k, f k = g k) : DictN n kvs g := ⟨d.nd, d.ks, fun k => (d.at_ k).trans (e k)⟩
theorem dget_merge : ∀ (ys xs : List (D × D)) (k : D), (ys.map (·.1)).Nodup → dget (dmerge xs ys) k = (dget ys k).or (dget xs k)
  | [], xs, k, _ => by rw [dget_nil]; simp [dmerge]
  | p :: r, xs, k, h => by
    obtain ⟨h1, h2⟩ := List.nodup_cons.mp h
    show dget (dmerge (dput xs p.1 p.2) r) k = _
    rw [dget_merge r _ k h2, dget_dput, dget_cons]
    by_cases e : p.1 = k
    · subst e
      rw [dget_none.mpr h1, if_pos rfl, if_pos rfl]; rfl
    · rw [if_neg e, if_neg fun z => e z.symm]
theorem DictN.merge {n : Nat} {kvs more : List (D × D)} {f g : Nat → Option D} (d : DictN n kvs f) (m : DictN n more g) : DictN n (dmerge kvs more) fun j => (g j).or (f j) := by
  refine ⟨?_, ?_, fun k => by rw [dget_merge _ _ _ m.nd, m.at_, d.at_]⟩
  · have : ∀ (ys xs : List (D × D)), (xs.map (·.1)).Nodup → ((dmerge xs ys).map (·.1)).Nodup := by
      intro ys
      induction ys with
      | nil => intro xs h; exact h
      | cons p r ih => intro xs h; exact ih _ (dput_nodup h _ _)
    exact this _ _ d.nd
  · have : ∀ (ys xs : List (D × D)), (∀ p ∈ ys, ∃ k : Nat, k < n ∧ p.1 = .int k) → (∃ f, DictN n xs f) → ∃ f, DictN n (dmerge xs ys) f := by
      intro ys
      induction ys with
      | nil => intro xs _ h; exact h
      | cons p r ih =>
        intro xs hp ⟨f, hf⟩
        obtain ⟨k, hk, e⟩ := hp p List.mem_cons_self
        refine ih (dput xs p.1 p.2) (fun q hq => hp q (List.mem_cons_of_mem _ hq)) ⟨fun j => if j = k then some p.2 else f j, ?_⟩
        rw [e]; exact hf.put hk _
    obtain ⟨_, h⟩ := this more kvs m.ks ⟨f, d⟩
    exact h.ks
/-- its keys -/
theorem DictN.keys {n : Nat} {kvs : List (D × D)} {f : Nat → Option D} (d : DictN n kvs f) : ∃ ks : List Nat, kvs.map (·.1) = ks.map (fun (k : Nat) => D.int k) ∧ ks.Nodup ∧ (∀ k, k ∈ ks ↔ (f k).isSome = true) ∧ ∀ k ∈ ks, k < n := by
  have : ∀ kvs : List (D × D), (∀ p ∈ kvs, ∃ k : Nat, k < n ∧ p.1 = .int k) → ∃ ks : List Nat, kvs.map (·.1) = ks.map (fun (k : Nat) => D.int k) ∧ ∀ k ∈ ks, k < n := by
    intro kvs
    induction kvs with
    | nil => intro _; exact ⟨[], rfl, fun _ h => by simp at h⟩
    | cons p r ih =>
      intro h
      obtain ⟨k, hk, e⟩ := h p List.mem_cons_self
      obtain ⟨ks, e2, hl⟩ := ih fun q hq => h q (List.mem_cons_of_mem _ hq)
      refine ⟨k :: ks, by rw [List.map_cons, List.map_cons, e, e2], fun j hj => ?_⟩
      rcases List.mem_cons.mp hj with rfl | hj
      · exact hk
      · exact hl j hj
  obtain ⟨ks, e, hl⟩ := this kvs d.ks
  have hn : (ks.map fun (k : Nat) => D.int k).Nodup := e ▸ d.nd
  have hmem : ∀ k : Nat, k ∈ ks ↔ (f k).isSome = true := fun k => by
    rw [← d.at_ k]
    constructor
    · intro hk
      cases q : dget kvs (.int k) with
      | some _ => rfl
      | none => exact absurd (e ▸ List.mem_map.mpr ⟨k, hk, rfl⟩) (dget_none.mp q)
    · intro h
      by_cases hk : D.int (k : Int) ∈ kvs.map (·.1)
      · rw [e] at hk
        obtain ⟨j, hj, ej⟩ := List.mem_map.mp hk
        rw [← intN_inj ej]; exact hj
      · rw [dget_none.mpr hk] at h; simp at h
  refine ⟨ks, e, ?_, hmem, hl⟩
  exact (List.pairwise_map.mp hn).imp fun h e => h (by rw [e])
theorem foldl_dput : ∀ (ys xs : List (D × D)), (ys.map (·.1)).Nodup → (∀ p ∈ ys, dget xs p.1 = none) → ys.foldl (fun a p => dput a p.1 p.2) xs = xs ++ ys
  | [], xs, _, _ => by simp
  | p :: r, xs, h, hn => by
    obtain ⟨h1, h2⟩ := List.nodup_cons.mp h
    have e : dput xs p.1 p.2 = xs ++ [p] := by
      rw [dput_eq, if_neg (by rw [hn p List.mem_cons_self]; simp)]
    rw [List.foldl_cons, e, foldl_dput r _ h2 fun q hq => ?_]
    · simp
    · rw [dget_append, hn q (List.mem_cons_of_mem _ hq), dget_cons, if_neg, dget_nil]; rfl
      exact fun e => h1 (List.mem_map.mpr ⟨q, hq, e.symm⟩)
/-- {k: v(k) for k in ks if c(k)} -/
theorem DictN.comp {n : Nat} {ks : List Nat} (nd : ks.Nodup) (hk : ∀ k ∈ ks, k < n) (c : Nat → Bool) (v : Nat → D) :
    DictN n ((ks.map fun (k : Nat) => D.int k).filterMap fun d => match d with | .int i => if c i.toNat = true then some (.int i, v i.toNat) else none | _ => none) (fun j => if j ∈ ks ∧ c j = true then some (v j) else none) := by
  induction ks with
  | nil => exact ⟨List.nodup_nil, fun _ h => by simp at h, fun k => by simp [dget_nil]⟩
  | cons x r ih =>
    obtain ⟨h1, h2⟩ := List.nodup_cons.mp nd
    have d := ih h2 fun k hk' => hk k (List.mem_cons_of_mem _ hk')
    rw [List.map_cons, List.filterMap_cons]
    simp only [Int.toNat_natCast]
    by_cases hc : c x = true
    · rw [if_pos hc]
      refine ⟨?_, fun p hp => ?_, fun k => ?_⟩
      · rw [List.map_cons]
        refine List.nodup_cons.mpr ⟨fun hm => ?_, d.nd⟩
        have := d.at_ x
        rw [if_neg (fun q => h1 q.1)] at this
        exact dget_none.mp this hm
      · rcases List.mem_cons.mp hp with rfl | hp
        · exact ⟨x, hk x List.mem_cons_self, rfl⟩
        · exact d.ks p hp
      · rw [dget_cons]
        by_cases e : x = k
        · subst e; rw [if_pos rfl, if_pos ⟨List.mem_cons_self, hc⟩]
        · rw [if_neg fun z => e (intN_inj z), d.at_]
          have : (k ∈ x :: r ∧ c k = true) ↔ (k ∈ r ∧ c k = true) := by
            simp only [List.mem_cons]
            exact ⟨fun q => ⟨q.1.resolve_left fun z => e z.symm, q.2⟩, fun q => ⟨.inr q.1, q.2⟩⟩
          simp only [this]
    · rw [if_neg hc]
      refine ⟨d.nd, d.ks, fun k => ?_⟩
      rw [d.at_]
      have : (k ∈ x :: r ∧ c k = true) ↔ (k ∈ r ∧ c k = true) := by
        simp only [List.mem_cons]
        exact ⟨fun q => ⟨q.1.resolve_left fun z => hc (z ▸ q.2), q.2⟩, fun q => ⟨.inr q.1, q.2⟩⟩
      simp only [this]
theorem dc_comp {n : Nat} {ks : List Nat} (nd : ks.Nodup) (hk : ∀ k ∈ ks, k < n) (c : Nat → Bool) (v : Nat → D) {g : TG2} {tt : TT2} {tk tv : TE2} {C : Gp → Prop} {δw : St2} {G : Gp} {Q : List (D × D) → Gp → Prop} (hC : C G)
    (h : ∀ k ∈ ks, ∀ (R1 : D → D → Gp → Prop) (R0 : Gp → Prop), (c k = true → R1 (.int k) (v k) G) → (c k = false → R0 G) → g (.int k) δw G fun δ2 G2 => tt δ2 G2 fun b G3 => if b = true then tk δ2 G3 fun y G4 => tv δ2 G4 fun z G5 => R1 y z G5 else R0 G3)
    (q : ∀ kvs, DictN n kvs (fun j => if j ∈ ks ∧ c j = true then some (v j) else none) → Q kvs G) : dcW false g tt tk tv C δw Q (ks.map fun (k : Nat) => D.int k) [] G := by
  have d := DictN.comp nd hk c v
  refine dc_pure (fun d => match d with | .int i => if c i.toNat = true then some (.int i, v i.toNat) else none | _ => none) hC _ _ (fun x hx R1 R0 r => ?_) (fun x hx y e => ?_) ?_
  · obtain ⟨k, hk', rfl⟩ := List.mem_map.mp hx
    refine h k hk' R1 R0 (fun e => ?_) fun e => ?_
    · simpa [e] using r
    · simpa [e] using r
  · obtain ⟨k, hk', rfl⟩ := List.mem_map.mp hx
    simp only [Int.toNat_natCast] at e
    split at e
    · cases e; exact True.intro
    · cases e
  · rw [foldl_dput _ _ d.nd fun p _ => dget_nil, List.nil_append]
    exact q _ d
theorem gput_unlock {G : Gp} {s l : Addr} {m0 m1 x : MO} (h : G s = some m0) (hl : l ≠ s) : gput (gput (gput G s m1) l x) s m0 = gput G l x := by
  funext b
  by_cases hb : b = s
  · subst hb; rw [gput_same, gput_ne (fun e => hl e.symm)]; exact h.symm
  · rw [gput_ne hb]
    by_cases hc : b = l
    · subst hc; rw [gput_same, gput_same]
    · rw [gput_ne hc, gput_ne hc, gput_ne hb]
theorem gput_unlock0 {G : Gp} {s : Addr} {m0 m1 : MO} (h : G s = some m0) : gput (gput G s m1) s m0 = G := by
  rw [gput_gput]
  funext b
  by_cases hb : b = s
  · subst hb; rw [gput_same]; exact h.symm
  · rw [gput_ne hb]
/-- a dict that tells a set -/
def SetN (n : Nat) (kvs : List (D × D)) (P : Nat → Prop) : Prop := ∃ f, DictN n kvs f ∧ ∀ k, (f k).isSome = true ↔ P k
theorem SetN.iff {n : Nat} {kvs : List (D × D)} {P P' : Nat → Prop} (h : SetN n kvs P) (e : ∀ k, P k ↔ P' k) : SetN n kvs P' := let ⟨f, d, q⟩ := h; ⟨f, d, fun k => (q k).trans (e k)⟩
theorem SetN.mem {n : Nat} {kvs : List (D × D)} {P : Nat → Prop} (h : SetN n kvs P) (k : Nat) : (dget kvs (.int k)).isSome = true ↔ P k := by
  obtain ⟨f, d, q⟩ := h
  rw [d.at_]; exact q k
theorem SetN.len {n : Nat} {kvs : List (D × D)} {P : Nat → Prop} (h : SetN n kvs P) : kvs.length ≤ n := let ⟨_, d, _⟩ := h; d.len
theorem SetN.merge {n : Nat} {kvs more : List (D × D)} {P P' : Nat → Prop} (h : SetN n kvs P) (m : SetN n more P') : SetN n (dmerge kvs more) fun k => P k ∨ P' k := by
  obtain ⟨f, d, q⟩ := h
  obtain ⟨g, e, r⟩ := m
  refine ⟨_, d.merge e, fun k => ?_⟩
  show _ ↔ P k ∨ P' k
  rw [← q, ← r]
  cases g k <;> simp
open Classical in
/-- {k: True for k in ks if P(k)} -/
theorem dc_set {n : Nat} {ks : List Nat} (nd : ks.Nodup) (hk : ∀ k ∈ ks, k < n) (P : Nat → Prop) {g : TG2} {tt : TT2} {tk tv : TE2} {C : Gp → Prop} {δw : St2} {G : Gp} {Q : List (D × D) → Gp → Prop} (hC : C G)
    (h : ∀ k ∈ ks, ∀ (R1 : D → D → Gp → Prop) (R0 : Gp → Prop), (P k → R1 (.int k) (.bl true) G) → (¬ P k → R0 G) → g (.int k) δw G fun δ2 G2 => tt δ2 G2 fun b G3 => if b = true then tk δ2 G3 fun y G4 => tv δ2 G4 fun z G5 => R1 y z G5 else R0 G3)
    (q : ∀ kvs, SetN n kvs (fun k => k ∈ ks ∧ P k) → Q kvs G) : dcW false g tt tk tv C δw Q (ks.map fun (k : Nat) => D.int k) [] G :=
  dc_comp nd hk (fun k => decide (P k)) (fun _ => .bl true) hC (fun k hk R1 R0 r1 r0 => h k hk R1 R0 (fun p => r1 (decide_eq_true p)) fun p => r0 (decide_eq_false p)) fun kvs d => q kvs ⟨_, d, fun k => by
    by_cases e : k ∈ ks ∧ decide (P k) = true
    · rw [if_pos e]; exact ⟨fun _ => ⟨e.1, of_decide_eq_true e.2⟩, fun _ => rfl⟩
    · rw [if_neg e]; exact ⟨fun z => by simp at z, fun z => absurd ⟨z.1, decide_eq_true z.2⟩ e⟩⟩
end SD

set_option Elab.async false
set_option linter.all false
namespace SD
/-! ## games of parity, plain -/
structure Gm where
  own : Nat → Nat
  lv : Nat → Nat
  E : Nat → List Nat
def Good (lv : Nat → Nat) (p : Nat) (π : Nat → Nat) : Prop := ∃ c, c % 2 = p ∧ (∀ n, ∃ m, n ≤ m ∧ lv (π m) = c) ∧ ∃ n, ∀ m, n ≤ m → lv (π m) ≤ c
theorem Good.suffix {lv : Nat → Nat} {p : Nat} {π : Nat → Nat} (j : Nat) (h : Good lv p fun n => π (n + j)) : Good lv p π := by
  obtain ⟨c, h1, h2, n, h3⟩ := h
  refine ⟨c, h1, fun k => ?_, n + j, fun m hm => ?_⟩
  · obtain ⟨m, hm, e⟩ := h2 k
    exact ⟨m + j, by omega, e⟩
  · have e : m - j + j = m := by omega
    have q : lv (π (m - j + j)) ≤ c := h3 (m - j) (by omega)
    rw [e] at q; exact q
theorem Good.one {lv : Nat → Nat} {p q : Nat} {π : Nat → Nat} (h : Good lv p π) (k : Good lv q π) : p = q := by
  obtain ⟨c, h1, h2, n, h3⟩ := h
  obtain ⟨d, k1, k2, m, k3⟩ := k
  obtain ⟨i, hi, ei⟩ := h2 m
  obtain ⟨j, hj, ej⟩ := k2 n
  have := k3 i hi
  have := h3 j hj
  have : c = d := by omega
  omega
structure Cert (g : Gm) (S : Nat → Prop) (p : Nat) (U : Nat → Prop) (f : Nat → Nat) : Prop where
  sub : ∀ k, U k → S k
  mine : ∀ k, U k → g.own k = p → f k ∈ g.E k ∧ U (f k)
  his : ∀ k, U k → g.own k ≠ p → ∀ s, s ∈ g.E k → S s → U s
  good : ∀ π : Nat → Nat, (∀ n, U (π n)) → (∀ n, g.own (π n) = p → π (n + 1) = f (π n)) → (∀ n, g.own (π n) ≠ p → π (n + 1) ∈ g.E (π n)) → Good g.lv p π
theorem Cert.congr {g : Gm} {S : Nat → Prop} {p : Nat} {U : Nat → Prop} {f f' : Nat → Nat} (c : Cert g S p U f) (e : ∀ k, U k → g.own k = p → f' k = f k) : Cert g S p U f' where
  sub := c.sub
  mine := fun k hk ho => by rw [e k hk ho]; exact c.mine k hk ho
  his := c.his
  good := fun π h1 h2 h3 => c.good π h1 (fun n ho => by rw [h2 n ho, e _ (h1 n) ho]) h3
theorem Cert.iff {g : Gm} {S S' : Nat → Prop} {p : Nat} {U U' : Nat → Prop} {f : Nat → Nat} (c : Cert g S p U f) (hS : ∀ k, S k ↔ S' k) (hU : ∀ k, U k ↔ U' k) : Cert g S' p U' f := by
  have e1 : S = S' := funext fun k => propext (hS k)
  have e2 : U = U' := funext fun k => propext (hU k)
  rw [← e1, ← e2]; exact c
/-- no spot is won by both -/
theorem Cert.disjoint {g : Gm} {S : Nat → Prop} {U V : Nat → Prop} {f h : Nat → Nat} (two : ∀ k, S k → g.own k < 2) (c : Cert g S 0 U f) (d : Cert g S 1 V h) (k : Nat) (hu : U k) (hv : V k) : False := by
  let step : Nat → Nat := fun k => if g.own k = 0 then f k else h k
  let π : Nat → Nat := fun n => Nat.rec k (fun _ x => step x) n
  have hs : ∀ n, π (n + 1) = step (π n) := fun n => rfl
  have st : ∀ k, U k → V k → U (step k) ∧ V (step k) ∧ step k ∈ g.E k := fun k hu hv => by
    by_cases ho : g.own k = 0
    · have e : step k = f k := if_pos ho
      rw [e]
      obtain ⟨m1, m2⟩ := c.mine k hu ho
      exact ⟨m2, d.his k hv (by omega) _ m1 (c.sub _ m2), m1⟩
    · have e : step k = h k := if_neg ho
      have := two k (c.sub k hu)
      rw [e]
      obtain ⟨m1, m2⟩ := d.mine k hv (by omega)
      exact ⟨c.his k hu ho _ m1 (d.sub _ m2), m2, m1⟩
  have both : ∀ n, U (π n) ∧ V (π n) := fun n => by
    induction n with
    | zero => exact ⟨hu, hv⟩
    | succ n ih => rw [hs]; exact ⟨(st _ ih.1 ih.2).1, (st _ ih.1 ih.2).2.1⟩
  have e0 : Good g.lv 0 π := c.good π (fun n => (both n).1) (fun n ho => by rw [hs]; exact if_pos ho) fun n _ => by rw [hs]; exact (st _ (both n).1 (both n).2).2.2
  have e1 : Good g.lv 1 π := d.good π (fun n => (both n).2) (fun n ho => by rw [hs]; exact if_neg (by omega)) fun n _ => by rw [hs]; exact (st _ (both n).1 (both n).2).2.2
  exact absurd (e0.one e1) (by decide)
/-- two solutions are one -/
theorem Cert.unique {g : Gm} {S : Nat → Prop} {U V U' V' : Nat → Prop} {f h f' h' : Nat → Nat} (two : ∀ k, S k → g.own k < 2) (c : Cert g S 0 U f) (d : Cert g S 1 V h) (c' : Cert g S 0 U' f') (d' : Cert g S 1 V' h')
    (all : ∀ k, S k → U k ∨ V k) (all' : ∀ k, S k → U' k ∨ V' k) : ∀ k, (U k ↔ U' k) ∧ (V k ↔ V' k) := fun k =>
  ⟨⟨fun hu => (all' k (c.sub k hu)).resolve_right fun hv => c.disjoint two d' k hu hv, fun hu => (all k (c'.sub k hu)).resolve_right fun hv => c'.disjoint two d k hu hv⟩,
   ⟨fun hv => (all' k (d.sub k hv)).resolve_left fun hu => c'.disjoint two d k hu hv, fun hv => (all k (d'.sub k hv)).resolve_left fun hu => c.disjoint two d' k hu hv⟩⟩

/-! ### what draws in -/
structure Attr (g : Gm) (N : Nat → Prop) (p : Nat) (goals fs : Nat → Prop) (mv : Nat → Nat) : Prop where
  sub : ∀ k, fs k → N k
  has : ∀ k, goals k → fs k
  rank : ∃ rk : Nat → Nat, ∀ k, fs k → ¬ goals k → (g.own k = p → mv k ∈ g.E k ∧ fs (mv k) ∧ rk (mv k) < rk k) ∧ (g.own k ≠ p → ∀ s, s ∈ g.E k → N s → fs s ∧ rk s < rk k)
  closed : ∀ k, N k → ¬ fs k → (g.own k = p → ∀ s, s ∈ g.E k → ¬ fs s) ∧ (g.own k ≠ p → ∃ s, s ∈ g.E k ∧ N s ∧ ¬ fs s)
/-- a play that follows what draws in comes to the goals -/
theorem Attr.comes {g : Gm} {N : Nat → Prop} {p : Nat} {goals fs : Nat → Prop} {mv : Nat → Nat} (a : Attr g N p goals fs mv) {f π : Nat → Nat} (h0 : ∀ n, N (π n)) (h1 : ∀ k, fs k → ¬ goals k → g.own k = p → f k = mv k)
    (h2 : ∀ n, g.own (π n) = p → π (n + 1) = f (π n)) (h3 : ∀ n, g.own (π n) ≠ p → π (n + 1) ∈ g.E (π n)) : ∀ n, fs (π n) → ∃ m, n ≤ m ∧ goals (π m) := by
  obtain ⟨rk, hr⟩ := a.rank
  have key : ∀ r n, rk (π n) = r → fs (π n) → ∃ m, n ≤ m ∧ goals (π m) := by
    intro r
    induction r using Nat.strongRecOn with
    | ind r ih =>
      intro n er hf
      by_cases hg : goals (π n)
      · exact ⟨n, Nat.le_refl _, hg⟩
      · obtain ⟨r1, r2⟩ := hr _ hf hg
        by_cases ho : g.own (π n) = p
        · obtain ⟨_, s2, s3⟩ := r1 ho
          have e : π (n + 1) = mv (π n) := by rw [h2 n ho, h1 _ hf hg ho]
          obtain ⟨m, hm, q⟩ := ih (rk (π (n + 1))) (by rw [e]; omega) (n + 1) rfl (by rw [e]; exact s2)
          exact ⟨m, by omega, q⟩
        · obtain ⟨s2, s3⟩ := r2 ho _ (h3 n ho) (h0 _)
          obtain ⟨m, hm, q⟩ := ih (rk (π (n + 1))) (by omega) (n + 1) rfl s2
          exact ⟨m, by omega, q⟩
  exact fun n hf => key _ n rfl hf
def Total (g : Gm) (N : Nat → Prop) : Prop := ∀ k, N k → ∃ s, s ∈ g.E k ∧ N s
/-- what is left behind -/
theorem Attr.total {g : Gm} {N : Nat → Prop} {p : Nat} {goals fs : Nat → Prop} {mv : Nat → Nat} (a : Attr g N p goals fs mv) (t : Total g N) : Total g fun k => N k ∧ ¬ fs k := fun k ⟨hk, nf⟩ => by
  obtain ⟨c1, c2⟩ := a.closed k hk nf
  by_cases ho : g.own k = p
  · obtain ⟨s, h1, h2⟩ := t k hk
    exact ⟨s, h1, h2, c1 ho s h1⟩
  · exact c2 ho
theorem shift {U : Nat → Prop} {π : Nat → Nat} (j : Nat) (h : ∀ n, U (π (n + j))) : ∀ n, U ((fun n => π (n + j)) n) := h
/-- all is won: the other wins nothing of what is not drawn to the tops -/
theorem win_all {g : Gm} {N : Nat → Prop} {p top : Nat} {near : Nat → Prop} {mv st f : Nat → Nat} (hp : top % 2 = p) (tops : ∀ k, N k → g.lv k ≤ top) (a : Attr g N p (fun k => N k ∧ g.lv k = top) near mv)
    (c : Cert g (fun k => N k ∧ ¬ near k) p (fun k => N k ∧ ¬ near k) st)
    (f1 : ∀ k, N k → ¬ near k → g.own k = p → f k = st k) (f2 : ∀ k, near k → g.lv k ≠ top → g.own k = p → f k = mv k) (f3 : ∀ k, N k → g.lv k = top → g.own k = p → f k ∈ g.E k ∧ N (f k)) : Cert g N p N f where
  sub := fun _ h => h
  mine := fun k hk ho => by
    by_cases hn : near k
    · by_cases ht : g.lv k = top
      · exact f3 k hk ht ho
      · obtain ⟨rk, hr⟩ := a.rank
        obtain ⟨h1, h2, _⟩ := (hr k hn fun z => ht z.2).1 ho
        rw [f2 k hn ht ho]
        exact ⟨h1, a.sub _ h2⟩
    · rw [f1 k hk hn ho]
      obtain ⟨h1, h2⟩ := c.mine k ⟨hk, hn⟩ ho
      exact ⟨h1, h2.1⟩
  his := fun _ _ _ s _ hs => hs
  good := fun π h1 h2 h3 => by
    by_cases ev : ∃ j, ∀ n, j ≤ n → ¬ near (π n)
    · obtain ⟨j, hj⟩ := ev
      refine Good.suffix j (c.good _ (fun n => ⟨h1 _, hj _ (by omega)⟩) (fun n ho => ?_) fun n ho => ?_)
      · show π (n + 1 + j) = st (π (n + j))
        rw [show n + 1 + j = n + j + 1 by omega, h2 _ ho, f1 _ (h1 _) (hj _ (by omega)) ho]
      · show π (n + 1 + j) ∈ g.E (π (n + j))
        rw [show n + 1 + j = n + j + 1 by omega]; exact h3 _ ho
    · refine ⟨top, hp, fun n => ?_, 0, fun m _ => tops _ (h1 m)⟩
      have : ∃ m, n ≤ m ∧ near (π m) := by
        by_cases q : ∃ m, n ≤ m ∧ near (π m)
        · exact q
        · exact absurd ⟨n, fun m hm hq => q ⟨m, hm, hq⟩⟩ ev
      obtain ⟨m, hm, hq⟩ := this
      obtain ⟨i, hi, q⟩ := a.comes (f := f) h1 (fun k hk hg ho => f2 k hk (fun z => hg ⟨a.sub k hk, z⟩) ho) h2 h3 m hq
      exact ⟨i, by omega, q.2⟩
/-- some is lost: what is drawn to it is lost, too -/
theorem win_far {g : Gm} {N : Nat → Prop} {p q top : Nat} {near w far : Nat → Prop} {mv st lo f : Nat → Nat} (hpq : p ≠ q) (two : ∀ k, N k → g.own k = p ∨ g.own k = q) (a : Attr g N p (fun k => N k ∧ g.lv k = top) near mv)
    (c : Cert g (fun k => N k ∧ ¬ near k) q w st) (b : Attr g N q w far lo)
    (f1 : ∀ k, w k → g.own k = q → f k = st k) (f2 : ∀ k, far k → ¬ w k → g.own k = q → f k = lo k) : Cert g N q far f where
  sub := b.sub
  mine := fun k hk ho => by
    by_cases hw : w k
    · rw [f1 k hw ho]
      obtain ⟨h1, h2⟩ := c.mine k hw ho
      exact ⟨h1, b.has _ h2⟩
    · obtain ⟨rk, hr⟩ := b.rank
      obtain ⟨h1, h2, _⟩ := (hr k hk hw).1 ho
      rw [f2 k hk hw ho]; exact ⟨h1, h2⟩
  his := fun k hk ho s hs hN => by
    by_cases hw : w k
    · have hk' := c.sub k hw
      have hop : g.own k = p := (two k hk'.1).resolve_right ho
      exact b.has _ (c.his k hw ho s hs ⟨hN, (a.closed k hk'.1 hk'.2).1 hop s hs⟩)
    · obtain ⟨rk, hr⟩ := b.rank
      exact ((hr k hk hw).2 ho s hs hN).1
  good := fun π h1 h2 h3 => by
    have stay : ∀ k s, w k → g.own k ≠ q → s ∈ g.E k → N s → w s := fun k s hw ho hs hN => by
      have hk' := c.sub k hw
      exact c.his k hw ho s hs ⟨hN, (a.closed k hk'.1 hk'.2).1 ((two k hk'.1).resolve_right ho) s hs⟩
    obtain ⟨j, _, hj⟩ := b.comes (f := f) (fun n => b.sub _ (h1 n)) f2 h2 h3 0 (h1 0)
    have all : ∀ n, w (π (n + j)) := fun n => by
      induction n with
      | zero => rw [Nat.zero_add]; exact hj
      | succ n ih =>
        rw [show n + 1 + j = n + j + 1 by omega]
        by_cases ho : g.own (π (n + j)) = q
        · rw [h2 _ ho, f1 _ ih ho]; exact (c.mine _ ih ho).2
        · exact stay _ _ ih ho (h3 _ ho) (b.sub _ (h1 _))
    refine Good.suffix j (c.good _ all (fun n ho => ?_) fun n ho => ?_)
    · show π (n + 1 + j) = st (π (n + j))
      rw [show n + 1 + j = n + j + 1 by omega, h2 _ ho, f1 _ (all n) ho]
    · show π (n + 1 + j) ∈ g.E (π (n + j))
      rw [show n + 1 + j = n + j + 1 by omega]; exact h3 _ ho
/-- a new part is won besides -/
theorem Cert.join {g : Gm} {S N W V far : Nat → Prop} {q r : Nat} {f f1 f2 : Nat → Nat} (hqr : q ≠ r) (two : ∀ k, S k → g.own k = q ∨ g.own k = r) (hN : ∀ k, N k → S k) (cov : ∀ k, S k → N k ∨ W k ∨ V k) (c : Cert g S q W f1) (d : Cert g N q far f2) (apart : ∀ k, N k → ¬ W k)
    (noedge : ∀ k, N k → g.own k = r → ∀ s, s ∈ g.E k → ¬ V s) (e1 : ∀ k, W k → g.own k = q → f k = f1 k) (e2 : ∀ k, far k → g.own k = q → f k = f2 k) : Cert g S q (fun k => W k ∨ far k) f where
  sub := fun k h => h.elim (c.sub k) fun h => hN k (d.sub k h)
  mine := fun k h ho => by
    by_cases hw : W k
    · rw [e1 k hw ho]; obtain ⟨h1, h2⟩ := c.mine k hw ho; exact ⟨h1, .inl h2⟩
    · have hf := h.resolve_left hw
      rw [e2 k hf ho]; obtain ⟨h1, h2⟩ := d.mine k hf ho; exact ⟨h1, .inr h2⟩
  his := fun k h ho s hs hS => by
    by_cases hw : W k
    · exact .inl (c.his k hw ho s hs hS)
    · have hf := h.resolve_left hw
      have hk := d.sub k hf
      rcases cov s hS with z | z | z
      · exact .inr (d.his k hf ho s hs z)
      · exact .inl z
      · exact absurd z (noedge k hk ((two k (hN k hk)).resolve_left ho) s hs)
  good := fun π h1 h2 h3 => by
    by_cases ev : ∃ j, W (π j)
    · obtain ⟨j, hj⟩ := ev
      have all : ∀ n, W (π (n + j)) := fun n => by
        induction n with
        | zero => rw [Nat.zero_add]; exact hj
        | succ n ih =>
          rw [show n + 1 + j = n + j + 1 by omega]
          by_cases ho : g.own (π (n + j)) = q
          · rw [h2 _ ho, e1 _ ih ho]; exact (c.mine _ ih ho).2
          · have hs : S (π (n + j + 1)) := (h1 _).elim (c.sub _) fun h => hN _ (d.sub _ h)
            exact c.his _ ih ho _ (h3 _ ho) hs
      refine Good.suffix j (c.good _ all (fun n ho => ?_) fun n ho => ?_)
      · show π (n + 1 + j) = f1 (π (n + j))
        rw [show n + 1 + j = n + j + 1 by omega, h2 _ ho, e1 _ (all n) ho]
      · show π (n + 1 + j) ∈ g.E (π (n + j))
        rw [show n + 1 + j = n + j + 1 by omega]; exact h3 _ ho
    · have all : ∀ n, far (π n) := fun n => (h1 n).resolve_left fun z => ev ⟨n, z⟩
      exact d.good π all (fun n ho => by rw [h2 n ho, e2 _ (all n) ho]) h3
theorem Cert.empty {g : Gm} {S : Nat → Prop} {q : Nat} {f : Nat → Nat} : Cert g S q (fun _ => False) f where
  sub := fun _ h => h.elim
  mine := fun _ h => h.elim
  his := fun _ h => h.elim
  good := fun _ h => (h 0).elim
end SD

set_option Elab.async false
set_option linter.all false
namespace SD
open PySem PySem.Spec PyProof.Rows L2
/-! ## drawing in, turn by turn -/
/-- how many goals in S are not yet done -/
noncomputable def gcnt (E : List Nat) (S Pd : Nat → Prop) : Nat := (sdd ((E.filter fun s => @decide (S s ∧ ¬ Pd s) (Classical.propDecidable _)).map fun (e : Nat) => (e : Int))).length
theorem gcnt_mem {E : List Nat} {S Pd : Nat → Prop} {z : Int} : (z ∈ sdd ((E.filter fun s => @decide (S s ∧ ¬ Pd s) (Classical.propDecidable _)).map fun (e : Nat) => (e : Int))) ↔ ∃ s : Nat, z = s ∧ s ∈ E ∧ S s ∧ ¬ Pd s := by
  rw [sdd_mem, List.mem_map]
  constructor
  · rintro ⟨s, hs, rfl⟩
    have := List.mem_filter.mp hs
    exact ⟨s, rfl, this.1, by simpa using this.2⟩
  · rintro ⟨s, rfl, h1, h2⟩
    exact ⟨s, List.mem_filter.mpr ⟨h1, by simpa using h2⟩, rfl⟩
theorem gcnt_pos {E : List Nat} {S Pd : Nat → Prop} : 0 < gcnt E S Pd ↔ ∃ s, s ∈ E ∧ S s ∧ ¬ Pd s := by
  unfold gcnt
  rw [List.length_pos_iff_exists_mem]
  constructor
  · rintro ⟨z, hz⟩
    obtain ⟨s, _, h⟩ := gcnt_mem.mp hz
    exact ⟨s, h⟩
  · rintro ⟨s, h⟩
    exact ⟨(s : Int), gcnt_mem.mpr ⟨s, rfl, h⟩⟩
theorem gcnt_congr {E : List Nat} {S Pd Pd' : Nat → Prop} (h : ∀ s, s ∈ E → S s → (Pd s ↔ Pd' s)) : gcnt E S Pd = gcnt E S Pd' := by
  unfold gcnt
  congr 3
  refine List.filter_congr fun s hs => ?_
  by_cases hS : S s
  · simp [hS, h s hs hS]
  · simp [hS]
theorem gcnt_one {E : List Nat} {S Pd Pd' : Nat → Prop} {g : Nat} (hE : g ∈ E) (hS : S g) (hg : ¬ Pd g) (h : ∀ s, Pd' s ↔ Pd s ∨ s = g) : gcnt E S Pd = gcnt E S Pd' + 1 := by
  unfold gcnt
  have hm : (g : Int) ∈ sdd ((E.filter fun s => @decide (S s ∧ ¬ Pd s) (Classical.propDecidable _)).map fun (e : Nat) => (e : Int)) := gcnt_mem.mpr ⟨g, rfl, hE, hS, hg⟩
  have e := List.length_erase_of_mem hm
  have hp : 0 < (sdd ((E.filter fun s => @decide (S s ∧ ¬ Pd s) (Classical.propDecidable _)).map fun (e : Nat) => (e : Int))).length := List.length_pos_of_mem hm
  have : (sdd ((E.filter fun s => @decide (S s ∧ ¬ Pd' s) (Classical.propDecidable _)).map fun (e : Nat) => (e : Int))).length = ((sdd ((E.filter fun s => @decide (S s ∧ ¬ Pd s) (Classical.propDecidable _)).map fun (e : Nat) => (e : Int))).erase (g : Int)).length := by
    refine len_same (sdd_nodup _) ((sdd_nodup _).erase _) fun z => ?_
    rw [(sdd_nodup _).mem_erase_iff, gcnt_mem, gcnt_mem]
    constructor
    · rintro ⟨s, rfl, h1, h2, h3⟩
      rw [h] at h3
      exact ⟨fun e => h3 (.inr (by omega)), s, rfl, h1, h2, fun q => h3 (.inl q)⟩
    · rintro ⟨hz, s, rfl, h1, h2, h3⟩
      refine ⟨s, rfl, h1, h2, ?_⟩
      rw [h]; rintro (q | q)
      · exact h3 q
      · exact hz (by rw [q])
  omega
/-- what holds amid the drawing: Pd is done, pend: the goal go is still counted at k -/
structure Mid (g : Gm) (S P : Nat → Prop) (p : Nat) (Pd pend : Nat → Prop) (go : Nat) (wl : List Nat) (Fd : Nat → Prop) (fl : Nat → Int) (mv rk : Nat → Nat) (M : Nat) : Prop where
  nd : wl.Nodup
  wF : ∀ k, k ∈ wl → Fd k
  FS : ∀ k, Fd k → S k
  PF : ∀ k, P k → Fd k
  done : ∀ k, Pd k ↔ Fd k ∧ k ∉ wl
  rank : ∀ k, Fd k → ¬ P k → (g.own k = p → mv k ∈ g.E k ∧ Fd (mv k) ∧ rk (mv k) < rk k) ∧ (g.own k ≠ p → ∀ s, s ∈ g.E k → S s → Fd s ∧ rk s < rk k)
  top : ∀ k, Fd k → rk k < M
  left : ∀ k, S k → ¬ Fd k → (pend k → fl k = gcnt (g.E k) S Pd + 1) ∧ (¬ pend k → fl k = gcnt (g.E k) S Pd)
  mine : ∀ k, S k → ¬ Fd k → g.own k = p → ∀ s, s ∈ g.E k → Pd s → pend k ∧ s = go
  his : ∀ k, S k → ¬ Fd k → g.own k ≠ p → 0 < fl k
  pendE : ∀ k, pend k → go ∈ g.E k
  godone : (∃ k, pend k) → Pd go
section
variable {g : Gm} {S P : Nat → Prop} {p : Nat} {Pd pend : Nat → Prop} {go : Nat} {wl : List Nat} {Fd : Nat → Prop} {fl : Nat → Int} {mv rk : Nat → Nat} {M : Nat}
theorem Mid.start (tot : Total g S) (nd : wl.Nodup) (h : ∀ k, k ∈ wl ↔ P k) (PS : ∀ k, P k → S k) (hl : ∀ k, S k → fl k = gcnt (g.E k) S fun _ => False) (mv : Nat → Nat) : Mid g S P p (fun _ => False) (fun _ => False) 0 wl P fl mv (fun _ => 0) 1 where
  nd := nd
  wF := fun k hk => (h k).mp hk
  FS := PS
  PF := fun _ h => h
  done := fun k => ⟨fun q => q.elim, fun q => q.2 ((h k).mpr q.1)⟩
  rank := fun k h1 h2 => absurd h1 h2
  top := fun _ _ => by omega
  left := fun k hS _ => ⟨fun q => q.elim, fun _ => hl k hS⟩
  mine := fun _ _ _ _ _ _ q => q.elim
  his := fun k hS _ _ => by
    rw [hl k hS]
    obtain ⟨s, h1, h2⟩ := tot k hS
    have := (gcnt_pos (Pd := fun _ => False)).mpr ⟨s, h1, h2, fun q => q⟩
    omega
  pendE := fun _ q => q.elim
  godone := fun ⟨_, q⟩ => q.elim
/-- a goal is taken from the end -/
theorem Mid.pop {gl : Nat} {w' : List Nat} (m : Mid g S P p Pd (fun _ => False) go wl Fd fl mv rk M) (e : wl = w' ++ [gl]) : Mid g S P p (fun s => Pd s ∨ s = gl) (fun k => gl ∈ g.E k) gl w' Fd fl mv rk M where
  nd := by have := m.nd; rw [e] at this; exact (List.nodup_append.mp this).1
  wF := fun k hk => m.wF k (by rw [e]; exact List.mem_append_left _ hk)
  FS := m.FS
  PF := m.PF
  done := fun k => by
    have hn := m.nd
    rw [e] at hn
    have hg : gl ∉ w' := fun h => (List.nodup_append.mp hn).2.2 _ h _ (by simp) rfl
    have hgF : Fd gl := m.wF gl (by rw [e]; simp)
    rw [m.done k, e]
    constructor
    · rintro (⟨h1, h2⟩ | rfl)
      · exact ⟨h1, fun h => h2 (List.mem_append_left _ h)⟩
      · exact ⟨hgF, hg⟩
    · rintro ⟨h1, h2⟩
      by_cases h : k = gl
      · exact .inr h
      · exact .inl ⟨h1, by simp [h, h2]⟩
  rank := m.rank
  top := m.top
  left := fun k hS nF => by
    have hgw : gl ∈ wl := by rw [e]; simp
    have hgF : Fd gl := m.wF gl hgw
    have hnd : ¬ Pd gl := fun h => ((m.done gl).mp h).2 hgw
    have h0 := (m.left k hS nF).2 fun h => h
    refine ⟨fun hE => ?_, fun hE => ?_⟩
    · rw [h0, gcnt_one (Pd' := fun s => Pd s ∨ s = gl) hE (m.FS _ hgF) hnd fun _ => Iff.rfl]; simp
    · rw [h0]
      congr 1
      exact gcnt_congr fun s hs _ => ⟨.inl, fun q => q.elim id fun q => absurd (q ▸ hs) hE⟩
  mine := fun k hS nF ho s hs q => by
    rcases q with q | rfl
    · exact (m.mine k hS nF ho s hs q).1.elim
    · exact ⟨hs, rfl⟩
  his := m.his
  pendE := fun _ h => h
  godone := fun _ => .inr rfl
/-- a spot that is not asked, or found already -/
theorem Mid.skip {j : Nat} (m : Mid g S P p Pd pend go wl Fd fl mv rk M) (h : ¬ (S j ∧ ¬ Fd j)) : Mid g S P p Pd (fun k => pend k ∧ k ≠ j) go wl Fd fl mv rk M := { m with
  left := fun k hS nF => by
    have hk : k ≠ j := fun e => h (e ▸ ⟨hS, nF⟩)
    exact ⟨fun q => (m.left k hS nF).1 q.1, fun q => (m.left k hS nF).2 fun z => q ⟨z, hk⟩⟩
  mine := fun k hS nF ho s hs q => by
    have hk : k ≠ j := fun e => h (e ▸ ⟨hS, nF⟩)
    obtain ⟨a, b⟩ := m.mine k hS nF ho s hs q
    exact ⟨⟨a, hk⟩, b⟩
  pendE := fun k q => m.pendE k q.1
  godone := fun ⟨k, q⟩ => m.godone ⟨k, q.1⟩ }
/-- one less to wait for -/
theorem Mid.dec {j : Nat} (m : Mid g S P p Pd pend go wl Fd fl mv rk M) (hS : S j) (nF : ¬ Fd j) (hp : pend j) (ho : g.own j ≠ p) (hc : 0 < fl j - 1) : Mid g S P p Pd (fun k => pend k ∧ k ≠ j) go wl Fd (fun k => if k = j then fl j - 1 else fl k) mv rk M := { m with
  left := fun k hk nk => by
    by_cases e : k = j
    · subst e
      refine ⟨fun q => absurd rfl q.2, fun _ => ?_⟩
      rw [if_pos rfl, (m.left k hk nk).1 hp]; omega
    · rw [if_neg e]
      exact ⟨fun q => (m.left k hk nk).1 q.1, fun q => (m.left k hk nk).2 fun z => q ⟨z, e⟩⟩
  mine := fun k hk nk hok s hs q => by
    have e : k ≠ j := fun e => ho (e ▸ hok)
    obtain ⟨a, b⟩ := m.mine k hk nk hok s hs q
    exact ⟨⟨a, e⟩, b⟩
  his := fun k hk nk hok => by
    by_cases e : k = j
    · rw [if_pos e]; exact hc
    · rw [if_neg e]; exact m.his k hk nk hok
  pendE := fun k q => m.pendE k q.1
  godone := fun ⟨k, q⟩ => m.godone ⟨k, q.1⟩ }
/-- a spot is drawn in -/
theorem Mid.add {j : Nat} {mv' : Nat → Nat} (m : Mid g S P p Pd pend go wl Fd fl mv rk M) (hS : S j) (nF : ¬ Fd j) (hp : pend j) (hm : ∀ k, k ≠ j → mv' k = mv k) (hj : g.own j = p → mv' j = go) (hc : g.own j ≠ p → fl j - 1 ≤ 0) :
    Mid g S P p Pd (fun k => pend k ∧ k ≠ j) go (wl ++ [j]) (fun k => Fd k ∨ k = j) (fun k => if k = j then fl j - 1 else fl k) mv' (fun k => if k = j then M else rk k) (M + 1) where
  nd := List.nodup_append.mpr ⟨m.nd, by simp, fun a ha b hb => by
    simp at hb
    rw [hb]; exact fun e => nF (m.wF j (e ▸ ha))⟩
  wF := fun k hk => by
    rcases List.mem_append.mp hk with h | h
    · exact .inl (m.wF k h)
    · exact .inr (by simpa using h)
  FS := fun k hk => hk.elim (m.FS k) fun e => e ▸ hS
  PF := fun k hk => .inl (m.PF k hk)
  done := fun k => by
    rw [m.done k]
    constructor
    · rintro ⟨h1, h2⟩
      have : k ≠ j := fun e => nF (e ▸ h1)
      exact ⟨.inl h1, by simp [h2, this]⟩
    · rintro ⟨h1, h2⟩
      simp only [List.mem_append, List.mem_singleton, not_or] at h2
      exact ⟨h1.resolve_right h2.2, h2.1⟩
  rank := fun k hk hP => by
    have hgo : Pd go := m.godone ⟨j, hp⟩
    by_cases e : k = j
    · subst e
      have hne : ∀ s, Fd s → s ≠ k := fun s hs e => nF (e ▸ hs)
      have lower : ∀ s, Fd s → (Fd s ∨ s = k) ∧ (if s = k then M else rk s) < (if k = k then M else rk k) := fun s hs => ⟨.inl hs, by rw [if_neg (hne s hs), if_pos rfl]; exact m.top s hs⟩
      refine ⟨fun ho => ?_, fun ho s hs hSs => ?_⟩
      · rw [hj ho]
        have hF := ((m.done go).mp hgo).1
        exact ⟨m.pendE k hp, lower go hF⟩
      · have h1 := (m.left k hS nF).1 hp
        have h2 := hc ho
        have h3 : ¬ 0 < gcnt (g.E k) S Pd := by omega
        have : Pd s := Classical.byContradiction fun q => h3 (gcnt_pos.mpr ⟨s, hs, hSs, q⟩)
        exact lower s ((m.done s).mp this).1
    · have hF := hk.resolve_right e
      obtain ⟨r1, r2⟩ := m.rank k hF hP
      have hne : ∀ s, Fd s → s ≠ j := fun s hs e => nF (e ▸ hs)
      refine ⟨fun ho => ?_, fun ho s hs hSs => ?_⟩
      · obtain ⟨a, b, c⟩ := r1 ho
        rw [hm k e]
        exact ⟨a, .inl b, by rw [if_neg (hne _ b), if_neg e]; exact c⟩
      · obtain ⟨b, c⟩ := r2 ho s hs hSs
        exact ⟨.inl b, by rw [if_neg (hne _ b), if_neg e]; exact c⟩
  top := fun k hk => by
    by_cases e : k = j
    · rw [if_pos e]; omega
    · rw [if_neg e]; have := m.top k (hk.resolve_right e); omega
  left := fun k hk nk => by
    have e : k ≠ j := fun e => nk (.inr e)
    have nk' : ¬ Fd k := fun h => nk (.inl h)
    rw [if_neg e]
    exact ⟨fun q => (m.left k hk nk').1 q.1, fun q => (m.left k hk nk').2 fun z => q ⟨z, e⟩⟩
  mine := fun k hk nk ho s hs q => by
    have e : k ≠ j := fun e => nk (.inr e)
    obtain ⟨a, b⟩ := m.mine k hk (fun h => nk (.inl h)) ho s hs q
    exact ⟨⟨a, e⟩, b⟩
  his := fun k hk nk ho => by
    have e : k ≠ j := fun e => nk (.inr e)
    rw [if_neg e]; exact m.his k hk (fun h => nk (.inl h)) ho
  pendE := fun k q => m.pendE k q.1
  godone := fun ⟨k, q⟩ => m.godone ⟨k, q.1⟩
theorem Mid.none (m : Mid g S P p Pd pend go wl Fd fl mv rk M) (h : ∀ k, S k → ¬ pend k) : Mid g S P p Pd (fun _ => False) go wl Fd fl mv rk M := { m with
  left := fun k hS nF => ⟨fun q => q.elim, fun _ => (m.left k hS nF).2 (h k hS)⟩
  mine := fun k hS nF ho s hs q => absurd (m.mine k hS nF ho s hs q).1 (h k hS)
  pendE := fun _ q => q.elim
  godone := fun ⟨_, q⟩ => q.elim }
theorem Mid.attr (m : Mid g S P p Pd (fun _ => False) go [] Fd fl mv rk M) : Attr g S p P Fd mv where
  sub := m.FS
  has := m.PF
  rank := ⟨rk, m.rank⟩
  closed := fun k hS nF => by
    have hd : ∀ s, Pd s ↔ Fd s := fun s => by rw [m.done s]; simp
    refine ⟨fun ho s hs hF => (m.mine k hS nF ho s hs ((hd s).mpr hF)).1, fun ho => ?_⟩
    have h1 := m.his k hS nF ho
    rw [(m.left k hS nF).2 fun h => h] at h1
    obtain ⟨s, h2, h3, h4⟩ := gcnt_pos.mp (by omega : 0 < gcnt (g.E k) S Pd)
    exact ⟨s, h2, h3, fun hF => h4 ((hd s).mpr hF)⟩
end
end SD

set_option Elab.async false
set_option linter.all false
namespace SD
open PySem PySem.Spec PyProof.Rows L2
/-! ## the parts won, round by round -/
structure Parts (g : Gm) (S N : Nat → Prop) (W : Nat → Nat → Prop) (f : Nat → Nat) : Prop where
  two : ∀ k, S k → g.own k < 2
  cert : ∀ q, q < 2 → Cert g S q (W q) f
  cov : ∀ k, S k → N k ∨ W 0 k ∨ W 1 k
  sub : ∀ k, N k → S k
  apart : ∀ k q, q < 2 → N k → ¬ W q k
  noedge : ∀ k q, q < 2 → N k → g.own k = q → ∀ s, s ∈ g.E k → ¬ W q s
  tot : Total g N
theorem Parts.start {g : Gm} {S : Nat → Prop} (two : ∀ k, S k → g.own k < 2) (tot : Total g S) (f : Nat → Nat) : Parts g S S (fun _ _ => False) f where
  two := two
  cert := fun _ _ => .empty
  cov := fun _ h => .inl h
  sub := fun _ h => h
  apart := fun _ _ _ _ h => h
  noedge := fun _ _ _ _ _ _ _ h => h
  tot := tot
theorem Parts.far {g : Gm} {S N far : Nat → Prop} {W : Nat → Nat → Prop} {f f2 f' : Nat → Nat} {q : Nat} (P : Parts g S N W f) (hq : q < 2) (d : Cert g N q far f2) (cl : ∀ k, N k → ¬ far k → g.own k = q → ∀ s, s ∈ g.E k → ¬ far s) (tot : Total g fun k => N k ∧ ¬ far k)
    (e1 : ∀ k r, r < 2 → W r k → f' k = f k) (e2 : ∀ k, far k → g.own k = q → f' k = f2 k) : Parts g S (fun k => N k ∧ ¬ far k) (fun r k => W r k ∨ (r = q ∧ far k)) f' where
  two := P.two
  cert := fun r hr => by
    by_cases h : r = q
    · subst h
      have hr2 : 1 - r < 2 := by omega
      have j := Cert.join (f := f') (r := 1 - r) (V := W (1 - r)) (by omega) (fun k hk => by have := P.two k hk; omega) P.sub (fun k hk => by
        rcases P.cov k hk with z | z | z
        · exact .inl z
        · rcases (show r = 0 ∨ r = 1 by omega) with e | e
          · exact .inr (.inl (by rw [e]; exact z))
          · exact .inr (.inr (by rw [e]; exact z))
        · rcases (show r = 0 ∨ r = 1 by omega) with e | e
          · exact .inr (.inr (by rw [e]; exact z))
          · exact .inr (.inl (by rw [e]; exact z))) (P.cert r hr) d (fun k hk => P.apart k r hr hk) (fun k hk ho => P.noedge k (1 - r) hr2 hk ho) (fun k hk _ => e1 k r hr hk) e2
      exact j.iff (fun _ => Iff.rfl) fun k => ⟨fun h => h.elim .inl fun h => .inr ⟨rfl, h⟩, fun h => h.elim .inl fun h => .inr h.2⟩
    · exact ((P.cert r hr).congr (f' := f') fun k hk _ => e1 k r hr hk).iff (fun _ => Iff.rfl) fun k => ⟨.inl, fun z => z.elim id fun z => absurd z.1 h⟩
  cov := fun k hk => by
    by_cases hf : far k
    · rcases (show q = 0 ∨ q = 1 by omega) with e | e
      · exact .inr (.inl (.inr ⟨e.symm, hf⟩))
      · exact .inr (.inr (.inr ⟨e.symm, hf⟩))
    · rcases P.cov k hk with z | z | z
      · exact .inl ⟨z, hf⟩
      · exact .inr (.inl (.inl z))
      · exact .inr (.inr (.inl z))
  sub := fun k hk => P.sub k hk.1
  apart := fun k r hr hk => by
    rintro (z | ⟨_, z⟩)
    · exact P.apart k r hr hk.1 z
    · exact hk.2 z
  noedge := fun k r hr hk ho s hs => by
    rintro (z | ⟨e, z⟩)
    · exact P.noedge k r hr hk.1 ho s hs z
    · exact cl k hk.1 hk.2 (by rw [ho, e]) s hs z
  tot := tot
end SD

set_option Elab.async false
set_option linter.all false
namespace SD
open PySem PySem.Spec PyProof.Rows L2
/-! ## a game seen through another -/
theorem Good.congr {lv lv' : Nat → Nat} {p : Nat} {π π' : Nat → Nat} (h : Good lv p π) (e : ∀ n, lv' (π' n) = lv (π n)) : Good lv' p π' := by
  obtain ⟨c, h1, h2, n, h3⟩ := h
  exact ⟨c, h1, fun k => let ⟨m, hm, q⟩ := h2 k; ⟨m, hm, (e m).trans q⟩, n, fun m hm => by rw [e m]; exact h3 m hm⟩
theorem Good.lift {lv lv' : Nat → Nat} {p : Nat} {π π' : Nat → Nat} (h : Good lv p π) (e : ∀ n, lv' (π' n) = lv (π n) + 2) : Good lv' p π' := by
  obtain ⟨c, h1, h2, n, h3⟩ := h
  exact ⟨c + 2, by omega, fun k => let ⟨m, hm, q⟩ := h2 k; ⟨m, hm, by rw [e m, q]⟩, n, fun m hm => by rw [e m]; have := h3 m hm; omega⟩
/-- a certificate is pulled back along e -/
theorem Cert.pull {g g' : Gm} {S S' U U' : Nat → Prop} {p : Nat} {f f' e : Nat → Nat} (c : Cert g S p U f) (hU : ∀ i, U' i → U (e i)) (sub : ∀ i, U' i → S' i) (own : ∀ i, U' i → g'.own i = g.own (e i)) (lv : (∀ i, U' i → g'.lv i = g.lv (e i)) ∨ ∀ i, U' i → g'.lv i = g.lv (e i) + 2)
    (mine : ∀ i, U' i → g.own (e i) = p → f' i ∈ g'.E i ∧ U' (f' i) ∧ e (f' i) = f (e i)) (his : ∀ i, U' i → g.own (e i) ≠ p → ∀ s, s ∈ g'.E i → S' s → U' s) (edge : ∀ i, U' i → g.own (e i) ≠ p → ∀ s, s ∈ g'.E i → U' s → e s ∈ g.E (e i)) : Cert g' S' p U' f' where
  sub := sub
  mine := fun i hi ho => let ⟨a, b, _⟩ := mine i hi ((own i hi).symm.trans ho); ⟨a, b⟩
  his := fun i hi ho => his i hi fun z => ho ((own i hi).trans z)
  good := fun π h1 h2 h3 => by
    have q : Good g.lv p fun n => e (π n) := c.good _ (fun n => hU _ (h1 n)) (fun n ho => by
      show e (π (n + 1)) = f (e (π n))
      have ho' : g.own (e (π n)) = p := ho
      rw [h2 n ((own _ (h1 n)).trans ho')]
      exact (mine _ (h1 n) ho').2.2) fun n ho => by
      have ho' : g.own (e (π n)) ≠ p := ho
      exact edge _ (h1 n) ho' _ (h3 n fun z => ho' ((own _ (h1 n)).symm.trans z)) (h1 _)
    rcases lv with l | l
    · exact q.congr fun n => l _ (h1 n)
    · exact q.lift fun n => l _ (h1 n)
end SD

set_option Elab.async false
set_option linter.all false
set_option maxRecDepth 100000
set_option maxHeartbeats 4000000
namespace K43
open PySem PySem.Spec PyProof.Rows L2 SD
def top (i : Nat) : Stmt := PySem.Challenge.pw_sayingsdown_k43_whole_games_within_games.main.body.getD i (.Pass ⟨0, 0, 0, 0⟩)
def g_MOST_SPOTS : D := .int 2000
abbrev i_is_whole : Nat := 0
abbrev i_is_spot : Nat := 1
abbrev i_is_game : Nat := 2
abbrev i_before_spots : Nat := 3
abbrev i_drawn : Nat := 4
abbrev i_won_parts : Nat := 5
abbrev i_solved_game : Nat := 6
abbrev i__law_same : Nat := 7
abbrev i__law_pool : Nat := 8
abbrev i__law_spread : Nat := 9
abbrev i__law_draw : Nat := 10
abbrev i__law_shuffled : Nat := 11
abbrev i__law_game : Nat := 12
abbrev i__law_part : Nat := 13
abbrev i_law : Nat := 14
abbrev s_is_whole : Stmt := top 1
abbrev N_is_whole : List Str := ["value"]
theorem sc_is_whole : FnScope N_is_whole ["value"] (defScope s_is_whole) := ⟨rfl, rfl, rfl, by decide +kernel, rfl, by decide +kernel, by decide +kernel⟩
/-! is_whole; slots: 0 value -/
noncomputable def b_is_whole (W : Nat → Sem2) : TS2 :=
  (dRet (dAndV (dIsi "int" (dVar 0)) (dNotV (dIsi "bool" (dVar 0)))))
abbrev s_is_spot : Stmt := top 4
abbrev N_is_spot : List Str := ["many", "value", "item"]
theorem sc_is_spot : FnScope N_is_spot ["many", "value"] (defScope s_is_spot) := ⟨rfl, rfl, rfl, by decide +kernel, rfl, by decide +kernel, by decide +kernel⟩
/-! is_spot; slots: 0 many, 1 value, 2 item -/
noncomputable def b_is_spot (W : Nat → Sem2) : TS2 :=
  (dSeq (dIfS (dOr (dNot (dTest (dIsi "tuple" (dVar 1)))) (dOr (dTest (dOp oNe (dCall rLen (dCons (dVar 1) dNil)) (dC (.int 3)))) (dOr (dNot (dTest (dCall (W i_is_whole) (dCons (dOp oIx (dVar 1) (dC (.int 0))) dNil)))) (dNot (dTest (dCall (W i_is_whole) (dCons (dOp oIx (dVar 1) (dC (.int 1))) dNil))))))) (dRet (dC (.bl false))) dNext)
    (dSeq (dIfS (dOr (dTest (dOp oNotIn (dOp oIx (dVar 1) (dC (.int 0))) (dTup (dCons (dC (.int 0)) (dCons (dC (.int 1)) dNil))))) (dOr (dTest (dOp oLt (dOp oIx (dVar 1) (dC (.int 1))) (dC (.int 0)))) (dOr (dNot (dTest (dIsi "tuple" (dOp oIx (dVar 1) (dC (.int 2)))))) (dTest (dOp oEq (dCall rLen (dCons (dOp oIx (dVar 1) (dC (.int 2))) dNil)) (dC (.int 0))))))) (dRet (dC (.bl false))) dNext)
    (dRet (dAll (dLc (iE (dOp oIx (dVar 1) (dC (.int 2)))) (dgName 2) dYes (dAndV (dCall (W i_is_whole) (dCons (dVar 2) dNil)) (dChain oLe oLt (dC (.int 0)) (dVar 2) (dVar 0))) [2])))))
abbrev s_is_game : Stmt := top 5
abbrev N_is_game : List Str := ["value", "spot"]
theorem sc_is_game : FnScope N_is_game ["value"] (defScope s_is_game) := ⟨rfl, rfl, rfl, by decide +kernel, rfl, by decide +kernel, by decide +kernel⟩
/-! is_game; slots: 0 value, 1 spot -/
noncomputable def b_is_game (W : Nat → Sem2) : TS2 :=
  (dSeq (dIfS (dOr (dNot (dTest (dIsi "tuple" (dVar 0)))) (dNot (dTest (dChain oLe oLe (dC (.int 1)) (dCall rLen (dCons (dVar 0) dNil)) (dC g_MOST_SPOTS))))) (dRet (dC (.bl false))) dNext)
    (dRet (dAll (dLc (iE (dVar 0)) (dgName 1) dYes (dCall (W i_is_spot) (dCons (dCall rLen (dCons (dVar 0) dNil)) (dCons (dVar 1) dNil))) [1]))))
abbrev s_before_spots : Stmt := top 6
abbrev N_before_spots : List Str := ["game", "found", "k", "goal", "_"]
theorem sc_before_spots : FnScope N_before_spots ["game"] (defScope s_before_spots) := ⟨rfl, rfl, rfl, by decide +kernel, rfl, by decide +kernel, by decide +kernel⟩
/-! before_spots; slots: 0 game, 1 found, 2 k, 3 goal, 4 _ -/
noncomputable def b_before_spots (W : Nat → Sem2) : TS2 :=
  (dSeq (dSet 1 (dMat (dLc (iE (dVar 0)) (dgName 4) dYes (dMat dNil) [4])))
    (dSeq (dFor (iR1 (dCall rLen (dCons (dVar 0) dNil))) (dgName 2) (dFor (iL (dSorSetT (dOp oIx (dOp oIx (dVar 0) (dVar 2)) (dC (.int 2))))) (dgName 3) (dDrop (dMeth "list" mAppend (dOp oIx (dVar 1) (dVar 3)) (dCons (dVar 2) dNil)))))
    (dRet (dVar 1))))
abbrev s_drawn : Stmt := top 7
abbrev N_drawn : List Str := ["game", "before", "spots", "player", "goals", "moves", "found", "waiting", "k", "goal", "left"]
theorem sc_drawn : FnScope N_drawn ["game", "before", "spots", "player", "goals", "moves"] (defScope s_drawn) := ⟨rfl, rfl, rfl, by decide +kernel, rfl, by decide +kernel, by decide +kernel⟩
/-! drawn; slots: 0 game, 1 before, 2 spots, 3 player, 4 goals, 5 moves, 6 found, 7 waiting, 8 k, 9 goal, 10 left -/
noncomputable def b_drawn (W : Nat → Sem2) : TS2 :=
  (dSeq (dSet 6 (dMatD false (pdCopyG (dVar 4))))
    (dSeq (dSet 7 (dMat (plKeysG (dVar 4))))
    (dSeq (dLock 2 (dSet 10 (dMatD false (dDc false (iK (dVar 2)) (dgName 8) dYes (dVar 8) (dLenSet (dLc (iE (dOp oIx (dOp oIx (dVar 0) (dVar 8)) (dC (.int 2)))) (dgName 9) (dTest (dOp oIn (dVar 9) (dVar 2))) (dVar 9) [9])) [8]))))
    (dSeq (dWhile (dTest (dOp oGt (dCall rLen (dCons (dVar 7) dNil)) (dC (.int 0)))) (dSeq (dSet 9 (dMeth "list" mPop (dVar 7) dNil))
    (dFor (iE (dOp oIx (dVar 1) (dVar 9))) (dgName 8) (dIfS (dAnd (dTest (dOp oIn (dVar 8) (dVar 2))) (dTest (dOp oNotIn (dVar 8) (dVar 6)))) (dSeq (dAugS (fun a b => a - b) (dVar 10) (dVar 8) (dC (.int 1)))
    (dSeq (dIfS (dTest (dOp oEq (dOp oIx (dOp oIx (dVar 0) (dVar 8)) (dC (.int 0))) (dVar 3))) (sPut (dVar 5) (dVar 8) (dVar 9)) dNext)
    (dIfS (dOr (dTest (dOp oEq (dOp oIx (dOp oIx (dVar 0) (dVar 8)) (dC (.int 0))) (dVar 3))) (dTest (dOp oLe (dOp oIx (dVar 10) (dVar 8)) (dC (.int 0))))) (dSeq (sPut (dVar 6) (dVar 8) (dC (.bl true)))
    (dDrop (dMeth "list" mAppend (dVar 7) (dCons (dVar 8) dNil)))) dNext))) dNext))))
    (dRet (dVar 6))))))
abbrev s_won_parts : Stmt := top 8
abbrev N_won_parts : List Str := ["game", "before", "spots", "won", "moves", "now", "k", "top", "player", "own", "tops", "near", "inner", "steps", "lost", "far", "goal"]
theorem sc_won_parts : FnScope N_won_parts ["game", "before", "spots"] (defScope s_won_parts) := ⟨rfl, rfl, rfl, by decide +kernel, rfl, by decide +kernel, by decide +kernel⟩
/-! won_parts; slots: 0 game, 1 before, 2 spots, 3 won, 4 moves, 5 now, 6 k, 7 top, 8 player, 9 own, 10 tops, 11 near, 12 inner, 13 steps, 14 lost, 15 far, 16 goal -/
noncomputable def b_won_parts (W : Nat → Sem2) : TS2 :=
  (dSeq (dSet 3 (dMat (dCons (dMatD false dNil0) (dCons (dMatD false dNil0) dNil))))
    (dSeq (dSet 4 (dMatD false dNil0))
    (dSeq (dSet 5 (dVar 2))
    (dSeq (dWhile (dTest (dOp oGt (dCall rLen (dCons (dVar 5) dNil)) (dC (.int 0)))) (dSeq (dLock 5 (dSet 7 (dMaxL (dLc (iK (dVar 5)) (dgName 6) dYes (dOp oIx (dOp oIx (dVar 0) (dVar 6)) (dC (.int 1))) [6]))))
    (dSeq (dSet 8 (dOp oMod (dVar 7) (dC (.int 2))))
    (dSeq (dSet 9 (dMatD false dNil0))
    (dSeq (dLock 5 (dSet 10 (dMatD false (dDc false (iK (dVar 5)) (dgName 6) (dTest (dOp oEq (dOp oIx (dOp oIx (dVar 0) (dVar 6)) (dC (.int 1))) (dVar 7))) (dVar 6) (dC (.bl true)) [6]))))
    (dSeq (dSet 11 (dCall (W i_drawn) (dCons (dVar 0) (dCons (dVar 1) (dCons (dVar 5) (dCons (dVar 8) (dCons (dVar 10) (dCons (dVar 9) dNil))))))))
    (dSeq (dLock 5 (dAsg (dCall (W i_won_parts) (dCons (dVar 0) (dCons (dVar 1) (dCons (dMatD false (dDc false (iK (dVar 5)) (dgName 6) (dTest (dOp oNotIn (dVar 6) (dVar 11))) (dVar 6) (dC (.bl true)) [6])) dNil)))) (dgTup (dgCons (dgName 12) (dgCons (dgName 13) dgNil)))))
    (dIfS (dTest (dOp oEq (dCall rLen (dCons (dOp oIx (dVar 12) (dOp oSub (dC (.int 1)) (dVar 8))) dNil)) (dC (.int 0)))) (dSeq (dDrop (dMeth "dict" mUpdate (dOp oIx (dVar 3) (dVar 8)) (dCons (dVar 5) dNil)))
    (dSeq (dDrop (dMeth "dict" mUpdate (dVar 4) (dCons (dVar 13) dNil)))
    (dSeq (dDrop (dMeth "dict" mUpdate (dVar 4) (dCons (dVar 9) dNil)))
    (dSeq (dLock 10 (dFor (iK (dVar 10)) (dgName 6) (dIfS (dTest (dOp oEq (dOp oIx (dOp oIx (dVar 0) (dVar 6)) (dC (.int 0))) (dVar 8))) (sPut (dVar 4) (dVar 6) (dIxL (dLc (iE (dOp oIx (dOp oIx (dVar 0) (dVar 6)) (dC (.int 2)))) (dgName 16) (dTest (dOp oIn (dVar 16) (dVar 5))) (dVar 16) [16]) (dC (.int 0)))) dNext)))
    (dSet 5 (dMatD false dNil0)))))) (dSeq (dSet 14 (dMatD false dNil0))
    (dSeq (dSet 15 (dCall (W i_drawn) (dCons (dVar 0) (dCons (dVar 1) (dCons (dVar 5) (dCons (dOp oSub (dC (.int 1)) (dVar 8)) (dCons (dOp oIx (dVar 12) (dOp oSub (dC (.int 1)) (dVar 8))) (dCons (dVar 14) dNil))))))))
    (dSeq (dDrop (dMeth "dict" mUpdate (dOp oIx (dVar 3) (dOp oSub (dC (.int 1)) (dVar 8))) (dCons (dVar 15) dNil)))
    (dSeq (dDrop (dMeth "dict" mUpdate (dVar 4) (dCons (dVar 14) dNil)))
    (dSeq (dLock 13 (dDrop (dMeth "dict" mUpdate (dVar 4) (dCons (dMatD false (dDc false (iK (dVar 13)) (dgName 6) (dTest (dOp oIn (dVar 6) (dOp oIx (dVar 12) (dOp oSub (dC (.int 1)) (dVar 8))))) (dVar 6) (dOp oIx (dVar 13) (dVar 6)) [6])) dNil))))
    (dLock 5 (dSet 5 (dMatD false (dDc false (iK (dVar 5)) (dgName 6) (dTest (dOp oNotIn (dVar 6) (dVar 15))) (dVar 6) (dC (.bl true)) [6])))))))))))))))))
    (dRet (dTup (dCons (dVar 3) (dCons (dVar 4) dNil))))))))
abbrev s_solved_game : Stmt := top 9
abbrev N_solved_game : List Str := ["game", "k", "won", "moves", "winners", "rows"]
theorem sc_solved_game : FnScope N_solved_game ["game"] (defScope s_solved_game) := ⟨rfl, rfl, rfl, by decide +kernel, rfl, by decide +kernel, by decide +kernel⟩
/-! solved_game; slots: 0 game, 1 k, 2 won, 3 moves, 4 winners, 5 rows -/
noncomputable def b_solved_game (W : Nat → Sem2) : TS2 :=
  (dSeq (dAsg (dCall (W i_won_parts) (dCons (dVar 0) (dCons (dCall (W i_before_spots) (dCons (dVar 0) dNil)) (dCons (dMatD false (dDc false (iR1 (dCall rLen (dCons (dVar 0) dNil))) (dgName 1) dYes (dVar 1) (dC (.bl true)) [1])) dNil)))) (dgTup (dgCons (dgName 2) (dgCons (dgName 3) dgNil))))
    (dSeq (dSet 4 (dTupQ (dLc (iR1 (dCall rLen (dCons (dVar 0) dNil))) (dgName 1) dYes (dIf (dTest (dOp oIn (dVar 1) (dOp oIx (dVar 2) (dC (.int 0))))) (dC (.int 0)) (dC (.int 1))) [1])))
    (dSeq (dSet 5 (dMat dNil))
    (dSeq (dFor (iR1 (dCall rLen (dCons (dVar 0) dNil))) (dgName 1) (dDrop (dMeth "list" mAppend (dVar 5) (dCons (dIf (dTest (dOp oEq (dOp oIx (dOp oIx (dVar 0) (dVar 1)) (dC (.int 0))) (dOp oIx (dVar 4) (dVar 1)))) (dOp oIx (dVar 3) (dVar 1)) (dC .non)) dNil))))
    (dRet (dTup (dCons (dVar 4) (dCons (dTupQ (qE (dVar 5))) dNil))))))))
abbrev s__law_same : Stmt := top 11
abbrev N__law_same : List Str := ["actual", "due", "k"]
theorem sc__law_same : FnScope N__law_same ["actual", "due"] (defScope s__law_same) := ⟨rfl, rfl, rfl, by decide +kernel, rfl, by decide +kernel, by decide +kernel⟩
/-! _law_same; slots: 0 actual, 1 due, 2 k -/
noncomputable def b__law_same (W : Nat → Sem2) : TS2 :=
  (dSeq (dIfS (dOr (dTest (dIsi "tuple" (dVar 1))) (dTest (dIsi "list" (dVar 1)))) (dSeq (dIfS (dOr (dTest (dOp oNe (dIsi "tuple" (dVar 1)) (dIsi "tuple" (dVar 0)))) (dOr (dTest (dOp oNe (dIsi "list" (dVar 1)) (dIsi "list" (dVar 0)))) (dTest (dOp oNe (dCall rLen (dCons (dVar 0) dNil)) (dCall rLen (dCons (dVar 1) dNil)))))) (dRet (dC (.bl false))) dNext)
    (dRet (dOp oEq (dLenQ (dLc (iR1 (dCall rLen (dCons (dVar 1) dNil))) (dgName 2) (dNot (dTest (dCall (W i__law_same) (dCons (dOp oIx (dVar 0) (dVar 2)) (dCons (dOp oIx (dVar 1) (dVar 2)) dNil))))) (dVar 2) [2])) (dC (.int 0))))) dNext)
    (dSeq (dIfS (dTest (dOp oIs (dVar 1) (dC .non))) (dRet (dOp oIs (dVar 0) (dC .non))) dNext)
    (dSeq (dIfS (dOr (dTest (dIsi "bool" (dVar 1))) (dTest (dIsi "bool" (dVar 0)))) (dRet (dAndV (dIsi "bool" (dVar 1)) (dAndV (dIsi "bool" (dVar 0)) (dOp oEq (dVar 0) (dVar 1))))) dNext)
    (dSeq (dIfS (dTest (dIsi "int" (dVar 1))) (dRet (dAndV (dIsi "int" (dVar 0)) (dOp oEq (dVar 0) (dVar 1)))) dNext)
    (dRet (dAndV (dIsi "str" (dVar 0)) (dOp oEq (dVar 0) (dVar 1))))))))
abbrev s__law_pool : Stmt := top 12
abbrev N__law_pool : List Str := ["script", "salt", "cell"]
theorem sc__law_pool : FnScope N__law_pool ["script"] (defScope s__law_pool) := ⟨rfl, rfl, rfl, by decide +kernel, rfl, by decide +kernel, by decide +kernel⟩
/-! _law_pool; slots: 0 script, 1 salt, 2 cell -/
noncomputable def b__law_pool (W : Nat → Sem2) : TS2 :=
  (dSeq (dSet 1 (dC (.int 7)))
    (dSeq (dFor (iL (dSlL (dVar 0) oNo (oYes (dC (.int 63))))) (dgName 2) (dSet 1 (dOp oMod (dCall rInt (dCons (dOp oAdd (dOp oMul (dVar 1) (dC (.int 31))) (dVar 2)) dNil)) (dC (.int 1000003)))))
    (dRet (dMat (dCons (dMat (qE (dVar 0))) (dCons (dC (.int 0)) (dCons (dC (.int 0)) (dCons (dC (.int 0)) (dCons (dVar 1) dNil)))))))))
abbrev s__law_spread : Stmt := top 13
abbrev N__law_spread : List Str := ["cell", "mixed", "total", "k"]
theorem sc__law_spread : FnScope N__law_spread ["cell"] (defScope s__law_spread) := ⟨rfl, rfl, rfl, by decide +kernel, rfl, by decide +kernel, by decide +kernel⟩
/-! _law_spread; slots: 0 cell, 1 mixed, 2 total, 3 k -/
noncomputable def b__law_spread (W : Nat → Sem2) : TS2 :=
  (dSeq (dSet 1 (dOp oMod (dCall rInt (dCons (dVar 0) dNil)) (dC (.int 2147483647))))
    (dSeq (dSet 2 (dC (.int 1)))
    (dSeq (dFor (iR1 (dC (.int 4))) (dgName 3) (dSeq (dSet 1 (dOp oMod (dCall rInt (dCons (dOp oAdd (dOp oAdd (dOp oMul (dVar 1) (dC (.int 48271))) (dC (.int 12345))) (dVar 3)) dNil)) (dC (.int 2147483647))))
    (dSet 2 (dOp oAdd (dOp oMul (dVar 2) (dC (.int 2147483647))) (dVar 1)))))
    (dRet (dVar 2)))))
abbrev s__law_draw : Stmt := top 14
abbrev N__law_draw : List Str := ["pool", "many", "cell", "mixed", "value"]
theorem sc__law_draw : FnScope N__law_draw ["pool", "many"] (defScope s__law_draw) := ⟨rfl, rfl, rfl, by decide +kernel, rfl, by decide +kernel, by decide +kernel⟩
/-! _law_draw; slots: 0 pool, 1 many, 2 cell, 3 mixed, 4 value -/
noncomputable def b__law_draw (W : Nat → Sem2) : TS2 :=
  (dSeq (dIfS (dAnd (dTest (dOp oLe (dOp oIx (dVar 0) (dC (.int 2))) (dC (.int 0)))) (dTest (dOp oLt (dOp oIx (dVar 0) (dC (.int 1))) (dCall rLen (dCons (dOp oIx (dVar 0) (dC (.int 0))) dNil))))) (dSeq (dSet 2 (dOp oIx (dOp oIx (dVar 0) (dC (.int 0))) (dOp oIx (dVar 0) (dC (.int 1)))))
    (dSeq (sPut (dVar 0) (dC (.int 1)) (dOp oAdd (dOp oIx (dVar 0) (dC (.int 1))) (dC (.int 1))))
    (dSeq (sPut (dVar 0) (dC (.int 2)) (dVar 2))
    (dIfS (dTest (dOp oLt (dVar 2) (dC (.int 1000000000000000000)))) (sPut (dVar 0) (dC (.int 2)) (dCall (W i__law_spread) (dCons (dVar 2) dNil))) dNext)))) dNext)
    (dSeq (sPut (dVar 0) (dC (.int 3)) (dOp oAdd (dOp oIx (dVar 0) (dC (.int 3))) (dC (.int 1))))
    (dSeq (dIfS (dTest (dOp oLe (dOp oIx (dVar 0) (dC (.int 2))) (dC (.int 0)))) (dSeq (dSet 3 (dOp oMod (dCall rInt (dCons (dOp oAdd (dOp oAdd (dOp oMul (dOp oIx (dVar 0) (dC (.int 4))) (dC (.int 48271))) (dOp oMul (dOp oIx (dVar 0) (dC (.int 3))) (dC (.int 69621)))) (dC (.int 1))) dNil)) (dC (.int 2147483647))))
    (dSeq (dSet 3 (dOp oMod (dCall rInt (dCons (dOp oAdd (dOp oMul (dVar 3) (dC (.int 16807))) (dOp oIx (dVar 0) (dC (.int 3)))) dNil)) (dC (.int 2147483629))))
    (dRet (dOp oMod (dOp oDiv (dVar 3) (dC (.int 5))) (dVar 1))))) dNext)
    (dSeq (dSet 4 (dOp oMod (dCall rInt (dCons (dOp oIx (dVar 0) (dC (.int 2))) dNil)) (dVar 1)))
    (dSeq (sPut (dVar 0) (dC (.int 2)) (dOp oDiv (dOp oIx (dVar 0) (dC (.int 2))) (dVar 1)))
    (dRet (dVar 4)))))))
abbrev s__law_shuffled : Stmt := top 15
abbrev N__law_shuffled : List Str := ["pool", "items", "left", "found", "at"]
theorem sc__law_shuffled : FnScope N__law_shuffled ["pool", "items"] (defScope s__law_shuffled) := ⟨rfl, rfl, rfl, by decide +kernel, rfl, by decide +kernel, by decide +kernel⟩
/-! _law_shuffled; slots: 0 pool, 1 items, 2 left, 3 found, 4 at -/
noncomputable def b__law_shuffled (W : Nat → Sem2) : TS2 :=
  (dSeq (dSet 2 (dMat (qE (dVar 1))))
    (dSeq (dSet 3 (dMat dNil))
    (dSeq (dWhile (dTest (dOp oGt (dCall rLen (dCons (dVar 2) dNil)) (dC (.int 0)))) (dSeq (dSet 4 (dCall (W i__law_draw) (dCons (dVar 0) (dCons (dCall rLen (dCons (dVar 2) dNil)) dNil))))
    (dSeq (dDrop (dMeth "list" mAppend (dVar 3) (dCons (dOp oIx (dVar 2) (dVar 4)) dNil)))
    (dSet 2 (dOp oAdd (dMat (dSlL (dVar 2) oNo (oYes (dVar 4)))) (dMat (dSlL (dVar 2) (oYes (dOp oAdd (dVar 4) (dC (.int 1)))) oNo)))))))
    (dRet (dTpl (fE (dVar 3)))))))
abbrev s__law_game : Stmt := top 16
abbrev N__law_game : List Str := ["pool", "many", "rows", "k", "steps", "j"]
theorem sc__law_game : FnScope N__law_game ["pool", "many"] (defScope s__law_game) := ⟨rfl, rfl, rfl, by decide +kernel, rfl, by decide +kernel, by decide +kernel⟩
/-! _law_game; slots: 0 pool, 1 many, 2 rows, 3 k, 4 steps, 5 j -/
noncomputable def b__law_game (W : Nat → Sem2) : TS2 :=
  (dSeq (dSet 2 (dMat dNil))
    (dSeq (dFor (iR1 (dVar 1)) (dgName 3) (dSeq (dSet 4 (dMat (dLc (iR1 (dOp oAdd (dC (.int 1)) (dCall (W i__law_draw) (dCons (dVar 0) (dCons (dC (.int 3)) dNil))))) (dgName 5) dYes (dCall (W i__law_draw) (dCons (dVar 0) (dCons (dVar 1) dNil))) [5])))
    (dDrop (dMeth "list" mAppend (dVar 2) (dCons (dTup (dCons (dCall (W i__law_draw) (dCons (dVar 0) (dCons (dC (.int 2)) dNil))) (dCons (dCall (W i__law_draw) (dCons (dVar 0) (dCons (dC (.int 5)) dNil))) (dCons (dTupQ (qE (dVar 4))) dNil)))) dNil)))))
    (dRet (dTupQ (qE (dVar 2))))))
abbrev s__law_part : Stmt := top 17
abbrev N__law_part : List Str := ["game", "spots", "moves", "rows", "k", "owner", "level", "steps", "good", "goal"]
theorem sc__law_part : FnScope N__law_part ["game", "spots", "moves"] (defScope s__law_part) := ⟨rfl, rfl, rfl, by decide +kernel, rfl, by decide +kernel, by decide +kernel⟩
/-! _law_part; slots: 0 game, 1 spots, 2 moves, 3 rows, 4 k, 5 owner, 6 level, 7 steps, 8 good, 9 goal -/
noncomputable def b__law_part (W : Nat → Sem2) : TS2 :=
  (dSeq (dSet 3 (dMat dNil))
    (dSeq (dFor (iE (dVar 1)) (dgName 4) (dSeq (dAsg (dOp oIx (dVar 0) (dVar 4)) (dgTup (dgCons (dgName 5) (dgCons (dgName 6) (dgCons (dgName 7) dgNil)))))
    (dSeq (dSet 8 (dMat (dLc (iE (dVar 7)) (dgName 9) (dTest (dOp oIn (dVar 9) (dVar 1))) (dMeth "list" mIndex (dVar 1) (dCons (dVar 9) dNil)) [9])))
    (dDrop (dMeth "list" mAppend (dVar 3) (dCons (dTup (dCons (dVar 5) (dCons (dVar 6) (dCons (dIf (dTest (dOp oIsNot (dOp oIx (dVar 2) (dVar 4)) (dC .non))) (dTup (dCons (dMeth "list" mIndex (dVar 1) (dCons (dOp oIx (dVar 2) (dVar 4)) dNil)) dNil)) (dTupQ (qE (dVar 8)))) dNil)))) dNil))))))
    (dRet (dTupQ (qE (dVar 3))))))
abbrev s_law : Stmt := top 18
abbrev N_law : List Str := ["script", "pool", "game", "many", "winners", "moves", "player", "k", "spots", "goal", "told", "part", "owner", "level", "steps", "more", "after", "lifted", "order", "mixed", "twice", "move", "j", "a", "b", "c"]
theorem sc_law : FnScope N_law ["script"] (defScope s_law) := ⟨rfl, rfl, rfl, by decide +kernel, rfl, by decide +kernel, by decide +kernel⟩
/-! law; slots: 0 script, 1 pool, 2 game, 3 many, 4 winners, 5 moves, 6 player, 7 k, 8 spots, 9 goal, 10 told, 11 part, 12 owner, 13 level, 14 steps, 15 more, 16 after, 17 lifted, 18 order, 19 mixed, 20 twice, 21 move, 22 j, 23 a, 24 b, 25 c -/
noncomputable def b_law_9 (W : Nat → Sem2) : TS2 :=
  (dSeq (dSet 11 (dCall (W i__law_part) (dCons (dVar 2) (dCons (dVar 8) (dCons (dVar 10) dNil)))))
    (dIfS (dOr (dNot (dTest (dCall (W i_is_game) (dCons (dVar 11) dNil)))) (dTest (dOp oNe (dOp oIx (dCall (W i_solved_game) (dCons (dVar 11) dNil)) (dC (.int 0))) (dOp oMul (dTup (dCons (dVar 6) dNil)) (dCall rLen (dCons (dVar 8) dNil)))))) (dRet (dC (.bl false))) dNext))
noncomputable def b_law_8 (W : Nat → Sem2) : TS2 :=
  (dFor (iE (dTup (dCons (dRepL (dCons (dC .non) dNil) (dVar 3)) (dCons (dMat (dLc (iEn (dVar 5)) (dgTup (dgCons (dgName 7) (dgCons (dgName 21) dgNil))) dYes (dIf (dTest (dOp oEq (dOp oIx (dVar 4) (dVar 7)) (dVar 6))) (dVar 21) (dC .non)) [7, 21])) dNil)))) (dgName 10) (b_law_9 W))
noncomputable def b_law_7 (W : Nat → Sem2) : TS2 :=
  (dSeq (dIfS (dTest (dOp oGt (dLenQ (dLc (iE (dVar 8)) (dgName 7) (dAnd (dTest (dOp oNe (dOp oIx (dOp oIx (dVar 2) (dVar 7)) (dC (.int 0))) (dVar 6))) (dTest (dOp oGt (dLenQ (dLc (iE (dOp oIx (dOp oIx (dVar 2) (dVar 7)) (dC (.int 2)))) (dgName 9) (dTest (dOp oNotIn (dVar 9) (dVar 8))) (dVar 9) [9])) (dC (.int 0))))) (dVar 7) [7])) (dC (.int 0)))) (dRet (dC (.bl false))) dNext)
    (dIfS (dTest (dOp oNe (dVar 8) (dMat dNil))) (b_law_8 W) dNext))
noncomputable def b_law_6 (W : Nat → Sem2) : TS2 :=
  (dSeq (dIfS (dTest (dOp oGt (dLenQ (dLc (iE (dVar 8)) (dgName 7) (dAnd (dTest (dOp oEq (dOp oIx (dOp oIx (dVar 2) (dVar 7)) (dC (.int 0))) (dVar 6))) (dOr (dTest (dOp oNotIn (dOp oIx (dVar 5) (dVar 7)) (dOp oIx (dOp oIx (dVar 2) (dVar 7)) (dC (.int 2))))) (dTest (dOp oNotIn (dOp oIx (dVar 5) (dVar 7)) (dVar 8))))) (dVar 7) [7])) (dC (.int 0)))) (dRet (dC (.bl false))) dNext)
    (b_law_7 W))
noncomputable def b_law_5 (W : Nat → Sem2) : TS2 :=
  (dSeq (dSet 8 (dMat (dLc (iR1 (dVar 3)) (dgName 7) (dTest (dOp oEq (dOp oIx (dVar 4) (dVar 7)) (dVar 6))) (dVar 7) [7])))
    (b_law_6 W))
noncomputable def b_law_19 (W : Nat → Sem2) : TS2 :=
  (dSeq (dSet 20 (dTupQ (dLc (iE (dVar 2)) (dgTup (dgCons (dgName 23) (dgCons (dgName 24) (dgCons (dgName 25) dgNil)))) dYes (dTup (dCons (dVar 23) (dCons (dVar 24) (dCons (dOp oAdd (dVar 25) (dRevT (dVar 25))) dNil)))) [23, 24, 25])))
    (dRet (dCall (W i__law_same) (dCons (dMat (dCons (dOp oIx (dCall (W i_solved_game) (dCons (dVar 17) dNil)) (dC (.int 0))) (dCons (dOp oIx (dCall (W i_solved_game) (dCons (dVar 20) dNil)) (dC (.int 0))) (dCons (dOp oIx (dCall (W i_solved_game) (dCons (dVar 19) dNil)) (dC (.int 0))) dNil)))) (dCons (dMat (dCons (dVar 4) (dCons (dVar 4) (dCons (dTupQ (dLc (iE (dVar 18)) (dgName 22) dYes (dOp oIx (dVar 4) (dVar 22)) [22])) dNil)))) dNil)))))
noncomputable def b_law_18 (W : Nat → Sem2) : TS2 :=
  (dSeq (dSet 19 (dTupQ (dLc (iE (dVar 18)) (dgName 22) dYes (dTup (dCons (dOp oIx (dOp oIx (dVar 2) (dVar 22)) (dC (.int 0))) (dCons (dOp oIx (dOp oIx (dVar 2) (dVar 22)) (dC (.int 1))) (dCons (dTupQ (dLc (iE (dOp oIx (dOp oIx (dVar 2) (dVar 22)) (dC (.int 2)))) (dgName 9) dYes (dMeth "tuple" mIndexT (dVar 18) (dCons (dVar 9) dNil)) [9])) dNil)))) [22])))
    (b_law_19 W))
noncomputable def b_law_17 (W : Nat → Sem2) : TS2 :=
  (dSeq (dSet 18 (dCall (W i__law_shuffled) (dCons (dVar 1) (dCons (dMat (dLRng (dVar 3))) dNil))))
    (b_law_18 W))
noncomputable def b_law_16 (W : Nat → Sem2) : TS2 :=
  (dSeq (dSet 17 (dTupQ (dLc (iE (dVar 2)) (dgTup (dgCons (dgName 23) (dgCons (dgName 24) (dgCons (dgName 25) dgNil)))) dYes (dTup (dCons (dVar 23) (dCons (dOp oAdd (dVar 24) (dC (.int 2))) (dCons (dVar 25) dNil)))) [23, 24, 25])))
    (b_law_17 W))
noncomputable def b_law_15 (W : Nat → Sem2) : TS2 :=
  (dSeq (dIfS (dAnd (dTest (dOp oEq (dOp oIx (dVar 4) (dVar 7)) (dVar 12))) (dTest (dOp oNe (dVar 16) (dVar 4)))) (dRet (dC (.bl false))) dNext)
    (b_law_16 W))
noncomputable def b_law_14 (W : Nat → Sem2) : TS2 :=
  (dSeq (dIfS (dTest (dOp oGt (dLenQ (dLc (iR1 (dVar 3)) (dgName 22) (dAnd (dTest (dOp oEq (dOp oIx (dVar 4) (dVar 22)) (dVar 12))) (dTest (dOp oNe (dOp oIx (dVar 16) (dVar 22)) (dVar 12)))) (dVar 22) [22])) (dC (.int 0)))) (dRet (dC (.bl false))) dNext)
    (b_law_15 W))
noncomputable def b_law_13 (W : Nat → Sem2) : TS2 :=
  (dSeq (dSet 16 (dOp oIx (dCall (W i_solved_game) (dCons (dVar 15) dNil)) (dC (.int 0))))
    (b_law_14 W))
noncomputable def b_law_12 (W : Nat → Sem2) : TS2 :=
  (dSeq (dSet 15 (dOp oAdd (dOp oAdd (dSlT (dVar 2) oNo (oYes (dVar 7))) (dTup (dCons (dTup (dCons (dVar 12) (dCons (dVar 13) (dCons (dOp oAdd (dVar 14) (dTup (dCons (dVar 9) dNil))) dNil)))) dNil))) (dSlT (dVar 2) (oYes (dOp oAdd (dVar 7) (dC (.int 1)))) oNo)))
    (b_law_13 W))
noncomputable def b_law_11 (W : Nat → Sem2) : TS2 :=
  (dSeq (dAsg (dOp oIx (dVar 2) (dVar 7)) (dgTup (dgCons (dgName 12) (dgCons (dgName 13) (dgCons (dgName 14) dgNil)))))
    (b_law_12 W))
noncomputable def b_law_10 (W : Nat → Sem2) : TS2 :=
  (dSeq (dPar 7 9 (dCall (W i__law_draw) (dCons (dVar 1) (dCons (dVar 3) dNil))) (dCall (W i__law_draw) (dCons (dVar 1) (dCons (dVar 3) dNil))))
    (b_law_11 W))
noncomputable def b_law_4 (W : Nat → Sem2) : TS2 :=
  (dSeq (dFor (iR1 (dC (.int 2))) (dgName 6) (b_law_5 W))
    (b_law_10 W))
noncomputable def b_law_3 (W : Nat → Sem2) : TS2 :=
  (dSeq (dAsg (dCall (W i_solved_game) (dCons (dVar 2) dNil)) (dgTup (dgCons (dgName 4) (dgCons (dgName 5) dgNil))))
    (b_law_4 W))
noncomputable def b_law_2 (W : Nat → Sem2) : TS2 :=
  (dSeq (dSet 3 (dCall rLen (dCons (dVar 2) dNil)))
    (b_law_3 W))
noncomputable def b_law_1 (W : Nat → Sem2) : TS2 :=
  (dSeq (dSet 2 (dCall (W i__law_game) (dCons (dVar 1) (dCons (dOp oAdd (dC (.int 2)) (dCall (W i__law_draw) (dCons (dVar 1) (dCons (dC (.int 10)) dNil)))) dNil))))
    (b_law_2 W))
noncomputable def b_law (W : Nat → Sem2) : TS2 :=
  (dSeq (dSet 1 (dCall (W i__law_pool) (dCons (dVar 0) dNil)))
    (b_law_1 W))
/-- the defs -/
noncomputable def T : Nat → FnD
  | 0 => ⟨1, 1, b_is_whole⟩
  | 1 => ⟨2, 3, b_is_spot⟩
  | 2 => ⟨1, 2, b_is_game⟩
  | 3 => ⟨1, 5, b_before_spots⟩
  | 4 => ⟨6, 11, b_drawn⟩
  | 5 => ⟨3, 17, b_won_parts⟩
  | 6 => ⟨1, 6, b_solved_game⟩
  | 7 => ⟨2, 3, b__law_same⟩
  | 8 => ⟨1, 3, b__law_pool⟩
  | 9 => ⟨1, 4, b__law_spread⟩
  | 10 => ⟨2, 5, b__law_draw⟩
  | 11 => ⟨2, 5, b__law_shuffled⟩
  | 12 => ⟨2, 6, b__law_game⟩
  | 13 => ⟨3, 10, b__law_part⟩
  | 14 => ⟨1, 26, b_law⟩
  | _ => ⟨0, 0, fun _ => dNever⟩
structure Txt (mg : Str → Option Value) (F : Fx) : Prop where
  b_all : mg "all" = none
  b_bool : mg "bool" = none
  b_dict : mg "dict" = none
  b_enumerate : mg "enumerate" = none
  b_int : mg "int" = none
  b_isinstance : mg "isinstance" = none
  b_len : mg "len" = none
  b_list : mg "list" = none
  b_max : mg "max" = none
  b_range : mg "range" = none
  b_set : mg "set" = none
  b_sorted : mg "sorted" = none
  b_str : mg "str" = none
  b_tuple : mg "tuple" = none
  g_MOST_SPOTS : GlOk mg F "MOST_SPOTS" g_MOST_SPOTS
structure Cs (P : Program) (w : World) (K : PySem.W.Frag) (mg : Str → Option Value) (base : Heap) (k : Nat) : Prop where
  c_is_whole : ∃ f fd ps, FnOk P w K mg base CX0 k f fd ps (spD ⟨P, w, K⟩ 1 (WF T k 0)) ∧ mg "is_whole" = some (.ref f) ∧ PySem.W.keepIn K (.ref f) = true ∧ Binds K fd ps []
  c_is_spot : ∃ f fd ps, FnOk P w K mg base CX0 k f fd ps (spD ⟨P, w, K⟩ 2 (WF T k 1)) ∧ mg "is_spot" = some (.ref f) ∧ PySem.W.keepIn K (.ref f) = true ∧ Binds K fd ps []
  c_is_game : ∃ f fd ps, FnOk P w K mg base CX0 k f fd ps (spD ⟨P, w, K⟩ 1 (WF T k 2)) ∧ mg "is_game" = some (.ref f) ∧ PySem.W.keepIn K (.ref f) = true ∧ Binds K fd ps []
  c_before_spots : ∃ f fd ps, FnOk P w K mg base CX0 k f fd ps (spD ⟨P, w, K⟩ 1 (WF T k 3)) ∧ mg "before_spots" = some (.ref f) ∧ PySem.W.keepIn K (.ref f) = true ∧ Binds K fd ps []
  c_drawn : ∃ f fd ps, FnOk P w K mg base CX0 k f fd ps (spD ⟨P, w, K⟩ 6 (WF T k 4)) ∧ mg "drawn" = some (.ref f) ∧ PySem.W.keepIn K (.ref f) = true ∧ Binds K fd ps []
  c_won_parts : ∃ f fd ps, FnOk P w K mg base CX0 k f fd ps (spD ⟨P, w, K⟩ 3 (WF T k 5)) ∧ mg "won_parts" = some (.ref f) ∧ PySem.W.keepIn K (.ref f) = true ∧ Binds K fd ps []
  c_solved_game : ∃ f fd ps, FnOk P w K mg base CX0 k f fd ps (spD ⟨P, w, K⟩ 1 (WF T k 6)) ∧ mg "solved_game" = some (.ref f) ∧ PySem.W.keepIn K (.ref f) = true ∧ Binds K fd ps []
  c__law_same : ∃ f fd ps, FnOk P w K mg base CX0 k f fd ps (spD ⟨P, w, K⟩ 2 (WF T k 7)) ∧ mg "_law_same" = some (.ref f) ∧ PySem.W.keepIn K (.ref f) = true ∧ Binds K fd ps []
  c__law_pool : ∃ f fd ps, FnOk P w K mg base CX0 k f fd ps (spD ⟨P, w, K⟩ 1 (WF T k 8)) ∧ mg "_law_pool" = some (.ref f) ∧ PySem.W.keepIn K (.ref f) = true ∧ Binds K fd ps []
  c__law_spread : ∃ f fd ps, FnOk P w K mg base CX0 k f fd ps (spD ⟨P, w, K⟩ 1 (WF T k 9)) ∧ mg "_law_spread" = some (.ref f) ∧ PySem.W.keepIn K (.ref f) = true ∧ Binds K fd ps []
  c__law_draw : ∃ f fd ps, FnOk P w K mg base CX0 k f fd ps (spD ⟨P, w, K⟩ 2 (WF T k 10)) ∧ mg "_law_draw" = some (.ref f) ∧ PySem.W.keepIn K (.ref f) = true ∧ Binds K fd ps []
  c__law_shuffled : ∃ f fd ps, FnOk P w K mg base CX0 k f fd ps (spD ⟨P, w, K⟩ 2 (WF T k 11)) ∧ mg "_law_shuffled" = some (.ref f) ∧ PySem.W.keepIn K (.ref f) = true ∧ Binds K fd ps []
  c__law_game : ∃ f fd ps, FnOk P w K mg base CX0 k f fd ps (spD ⟨P, w, K⟩ 2 (WF T k 12)) ∧ mg "_law_game" = some (.ref f) ∧ PySem.W.keepIn K (.ref f) = true ∧ Binds K fd ps []
  c__law_part : ∃ f fd ps, FnOk P w K mg base CX0 k f fd ps (spD ⟨P, w, K⟩ 3 (WF T k 13)) ∧ mg "_law_part" = some (.ref f) ∧ PySem.W.keepIn K (.ref f) = true ∧ Binds K fd ps []
  c_law : ∃ f fd ps, FnOk P w K mg base CX0 k f fd ps (spD ⟨P, w, K⟩ 1 (WF T k 14)) ∧ mg "law" = some (.ref f) ∧ PySem.W.keepIn K (.ref f) = true ∧ Binds K fd ps []
section
variable {P : Program} {w : World} {K : PySem.W.Frag} {mg : Str → Option Value} {base : Heap} {k : Nat} {f : Addr} {cdv : Value} {A : Around} {outer : List Env} {s : Shared} {H : Hp} {E : XK}
theorem d_is_whole (T : Txt mg ⟨P, w, K⟩) (C : Cs P w K mg base k) (hr : Room k (A.deeper (envOfC "is_whole" (defScope s_is_whole) s.heap.objs.size f cdv))) :
    PSs2 (cxOf CX0 P w K mg base N_is_whole "is_whole" (defScope s_is_whole) f cdv A outer s H E).nox (defBody s_is_whole) (b_is_whole (WF K43.T k)) := by
  have nd : (N_is_whole).Nodup := sc_is_whole.nd
  have hu := hr.units
  have hu5 := hr.u65
  unfold b_is_whole
  exact (pss_one2 (ps_ret2 (pd_and (pd_isi (T := "int") (.inr (.inl rfl)) rfl T.b_isinstance rfl T.b_int (pd_var 0)) (pd_one (pd_not (pd_isi (T := "bool") (.inl rfl) rfl T.b_isinstance rfl T.b_bool (pd_var 0)))))))
theorem d_is_spot (T : Txt mg ⟨P, w, K⟩) (C : Cs P w K mg base k) (hr : Room k (A.deeper (envOfC "is_spot" (defScope s_is_spot) s.heap.objs.size f cdv))) :
    PSs2 (cxOf CX0 P w K mg base N_is_spot "is_spot" (defScope s_is_spot) f cdv A outer s H E).nox (defBody s_is_spot) (b_is_spot (WF K43.T k)) := by
  have nd : (N_is_spot).Nodup := sc_is_spot.nd
  have hu := hr.units
  have hu5 := hr.u65
  unfold b_is_spot
  exact (pss_cons2 (ps_if2 (pt_w (pw_or2 (pt_not2 (pt_v (pd_isi (T := "tuple") (.inr (.inr (.inr (.inl rfl)))) rfl T.b_isinstance rfl T.b_tuple (pd_var 1)))) (pw_or2 (pt_c (op_ne2 hu) (pd_callB call_len2 rfl T.b_len PySem.boot_len (pa_cons2 (pd_var 1) pa_nil2)) pd_int) (pw_or2 (pt_not2 (pt_v (pd_call ⟨C.c_is_whole⟩ hr rfl (pa_cons2 (pd_ix hu (pd_var 1) pd_int) pa_nil2)))) (pw_or12 (pt_not2 (pt_v (pd_call ⟨C.c_is_whole⟩ hr rfl (pa_cons2 (pd_ix hu (pd_var 1) pd_int) pa_nil2))))))))) (pss_one2 (ps_ret2 pd_bl)) pss_nil2)
    (pss_cons2 (ps_if2 (pt_w (pw_or2 (pt_c (op_in2 hu5).2 (pd_ix hu (pd_var 1) pd_int) (pd_tup (pa_cons2 pd_int (pa_cons2 pd_int pa_nil2)))) (pw_or2 (pt_c op_lt2 (pd_ix hu (pd_var 1) pd_int) pd_int) (pw_or2 (pt_not2 (pt_v (pd_isi (T := "tuple") (.inr (.inr (.inr (.inl rfl)))) rfl T.b_isinstance rfl T.b_tuple (pd_ix hu (pd_var 1) pd_int)))) (pw_or12 (pt_c (op_eq2 hu) (pd_callB call_len2 rfl T.b_len PySem.boot_len (pa_cons2 (pd_ix hu (pd_var 1) pd_int) pa_nil2)) pd_int)))))) (pss_one2 (ps_ret2 pd_bl)) pss_nil2)
    (pss_one2 (ps_ret2 (pd_all rfl rfl T.b_all (pl_lc [("item", 2)] rfl nd (pi_E (pd_ix hu (pd_var 1) pd_int)) (blkOk_by (by kernel_rfl)) (fun _ _ _ _ _ => (pg_name2 2 nd)) (fun _ _ _ _ _ => pts_nil2) (fun _ _ _ _ _ => (pd_and (pd_call ⟨C.c_is_whole⟩ hr rfl (pa_cons2 (pd_var 2) pa_nil2)) (pd_one (pd_chain op_le2 op_lt2 pd_int (pd_var 2) (pd_var 0)))))))))))
theorem d_is_game (T : Txt mg ⟨P, w, K⟩) (C : Cs P w K mg base k) (hr : Room k (A.deeper (envOfC "is_game" (defScope s_is_game) s.heap.objs.size f cdv))) :
    PSs2 (cxOf CX0 P w K mg base N_is_game "is_game" (defScope s_is_game) f cdv A outer s H E).nox (defBody s_is_game) (b_is_game (WF K43.T k)) := by
  have nd : (N_is_game).Nodup := sc_is_game.nd
  have hu := hr.units
  have hu5 := hr.u65
  unfold b_is_game
  exact (pss_cons2 (ps_if2 (pt_w (pw_or2 (pt_not2 (pt_v (pd_isi (T := "tuple") (.inr (.inr (.inr (.inl rfl)))) rfl T.b_isinstance rfl T.b_tuple (pd_var 0)))) (pw_or12 (pt_not2 (pt_ch op_le2 op_le2 pd_int (pd_callB call_len2 rfl T.b_len PySem.boot_len (pa_cons2 (pd_var 0) pa_nil2)) (pd_gl T.g_MOST_SPOTS rfl)))))) (pss_one2 (ps_ret2 pd_bl)) pss_nil2)
    (pss_one2 (ps_ret2 (pd_all rfl rfl T.b_all (pl_lc [("spot", 1)] rfl nd (pi_E (pd_var 0)) (blkOk_by (by kernel_rfl)) (fun _ _ _ _ _ => (pg_name2 1 nd)) (fun _ _ _ _ _ => pts_nil2) (fun _ _ _ _ _ => (pd_call ⟨C.c_is_spot⟩ hr rfl (pa_cons2 (pd_callB call_len2 rfl T.b_len PySem.boot_len (pa_cons2 (pd_var 0) pa_nil2)) (pa_cons2 (pd_var 1) pa_nil2)))))))))
theorem d_before_spots (T : Txt mg ⟨P, w, K⟩) (C : Cs P w K mg base k) (hr : Room k (A.deeper (envOfC "before_spots" (defScope s_before_spots) s.heap.objs.size f cdv))) :
    PSs2 (cxOf CX0 P w K mg base N_before_spots "before_spots" (defScope s_before_spots) f cdv A outer s H E).nox (defBody s_before_spots) (b_before_spots (WF K43.T k)) := by
  have nd : (N_before_spots).Nodup := sc_before_spots.nd
  have hu := hr.units
  have hu5 := hr.u65
  unfold b_before_spots
  exact (pss_cons2 (ps_setLc2 1 [("_", 4)] rfl nd (pi_E (pd_var 0)) (blkOk_by (by kernel_rfl)) (fun _ _ _ _ _ => (pg_name2 4 nd)) (fun _ _ _ _ _ => pts_nil2) (fun _ _ _ _ _ => (pd_mat (pl_lst pa_nil2))))
    (pss_cons2 (ps_for2 PassesOwn.never rfl (pi_r1 rfl T.b_range (pd_callB call_len2 rfl T.b_len PySem.boot_len (pa_cons2 (pd_var 0) pa_nil2))) (pg_name2 2 nd) (pss_one2 (ps_for2 PassesOwn.never rfl (pi_L (pl_sorSetT rfl rfl T.b_sorted rfl T.b_set (pd_ix hu (pd_ix hu (pd_var 0) (pd_var 2)) pd_int))) (pg_name2 3 nd) (pss_one2 (ps_expr2 (pd_bm PySem.F.plainAttrs_list PySem.F.slot_list_append PySem.F.type_list_append mt_append2 (pd_ix hu (pd_var 1) (pd_var 3)) (pa_cons2 (pd_var 2) pa_nil2)))))))
    (pss_one2 (ps_ret2 (pd_var 1)))))
theorem d_drawn (T : Txt mg ⟨P, w, K⟩) (C : Cs P w K mg base k) (hr : Room k (A.deeper (envOfC "drawn" (defScope s_drawn) s.heap.objs.size f cdv))) :
    PSs2 (cxOf CX0 P w K mg base N_drawn "drawn" (defScope s_drawn) f cdv A outer s H E).nox (defBody s_drawn) (b_drawn (WF K43.T k)) := by
  have nd : (N_drawn).Nodup := sc_drawn.nd
  have hu := hr.units
  have hu5 := hr.u65
  unfold b_drawn
  exact (pss_cons2 (ps_set2 6 nd (pd_matD (pD_copy (pd_var 4) rfl T.b_dict)))
    (pss_cons2 (ps_set2 7 nd (pd_mat (pl_keys rfl (pd_var 4) rfl T.b_list)))
    (pss_cons2 (ps_lock2 2 (ps_setDc2 10 [("k", 8)] rfl nd (pi_K (pd_var 2)) (blkOk_by (by kernel_rfl)) (fun _ _ _ _ _ => (pg_name2 8 nd)) (fun _ _ _ _ _ => pts_nil2) (fun _ _ _ _ _ => (pd_var 8)) (fun _ _ _ _ _ => (pd_lenSet rfl rfl T.b_len rfl T.b_set (pl_lc [("goal", 9)] rfl nd (pi_E (pd_ix hu (pd_ix hu (pd_var 0) (pd_var 8)) pd_int)) (blkOk_by (by kernel_rfl)) (fun _ _ _ _ _ => (pg_name2 9 nd)) (fun _ _ _ _ _ => (pts_one2 (pt_c (op_in2 hu5).1 (pd_var 9) (pd_var 2)))) (fun _ _ _ _ _ => (pd_var 9)))))))
    (pss_cons2 (ps_while2 PassesOwn.never (pt_c op_gt2 (pd_callB call_len2 rfl T.b_len PySem.boot_len (pa_cons2 (pd_var 7) pa_nil2)) pd_int) (pss_cons2 (ps_set2 9 nd (pd_bm0 PySem.F.plainAttrs_list PySem.F.slot_list_pop PySem.F.type_list_pop mt_pop2 (pd_var 7)))
    (pss_one2 (ps_for2 PassesOwn.never rfl (pi_E (pd_ix hu (pd_var 1) (pd_var 9))) (pg_name2 8 nd) (pss_one2 (ps_if2 (pt_w (pw_and2 (pt_c (op_in2 hu5).1 (pd_var 8) (pd_var 2)) (pw_and12 (pt_c (op_in2 hu5).2 (pd_var 8) (pd_var 6))))) (pss_cons2 (ps_augS2 hu ip_sub (pd_var 10) (pd_var 8) pd_int)
    (pss_cons2 (ps_if2 (pt_c (op_eq2 hu) (pd_ix hu (pd_ix hu (pd_var 0) (pd_var 8)) pd_int) (pd_var 3)) (pss_one2 (ps_put2 hu (pd_var 9) (pd_var 5) (pd_var 8))) pss_nil2)
    (pss_one2 (ps_if2 (pt_w (pw_or2 (pt_c (op_eq2 hu) (pd_ix hu (pd_ix hu (pd_var 0) (pd_var 8)) pd_int) (pd_var 3)) (pw_or12 (pt_c op_le2 (pd_ix hu (pd_var 10) (pd_var 8)) pd_int)))) (pss_cons2 (ps_put2 hu pd_bl (pd_var 6) (pd_var 8))
    (pss_one2 (ps_expr2 (pd_bm PySem.F.plainAttrs_list PySem.F.slot_list_append PySem.F.type_list_append mt_append2 (pd_var 7) (pa_cons2 (pd_var 8) pa_nil2))))) pss_nil2)))) pss_nil2))))))
    (pss_one2 (ps_ret2 (pd_var 6)))))))
theorem d_won_parts (T : Txt mg ⟨P, w, K⟩) (C : Cs P w K mg base k) (hr : Room k (A.deeper (envOfC "won_parts" (defScope s_won_parts) s.heap.objs.size f cdv))) :
    PSs2 (cxOf CX0 P w K mg base N_won_parts "won_parts" (defScope s_won_parts) f cdv A outer s H E).nox (defBody s_won_parts) (b_won_parts (WF K43.T k)) := by
  have nd : (N_won_parts).Nodup := sc_won_parts.nd
  have hu := hr.units
  have hu5 := hr.u65
  unfold b_won_parts
  exact (pss_cons2 (ps_set2 3 nd (pd_mat (pl_lst (pa_cons2 (pd_matD (pD_nil false)) (pa_cons2 (pd_matD (pD_nil false)) pa_nil2)))))
    (pss_cons2 (ps_set2 4 nd (pd_matD (pD_nil false)))
    (pss_cons2 (ps_set2 5 nd (pd_var 2))
    (pss_cons2 (ps_while2 PassesOwn.never (pt_c op_gt2 (pd_callB call_len2 rfl T.b_len PySem.boot_len (pa_cons2 (pd_var 5) pa_nil2)) pd_int) (pss_cons2 (ps_lock2 5 (ps_set2 7 nd (pd_maxL rfl rfl T.b_max (pl_lc [("k", 6)] rfl nd (pi_K (pd_var 5)) (blkOk_by (by kernel_rfl)) (fun _ _ _ _ _ => (pg_name2 6 nd)) (fun _ _ _ _ _ => pts_nil2) (fun _ _ _ _ _ => (pd_ix hu (pd_ix hu (pd_var 0) (pd_var 6)) pd_int))))))
    (pss_cons2 (ps_set2 8 nd (pd_bin op_mod2 (pd_var 7) pd_int))
    (pss_cons2 (ps_set2 9 nd (pd_matD (pD_nil false)))
    (pss_cons2 (ps_lock2 5 (ps_setDc2 10 [("k", 6)] rfl nd (pi_K (pd_var 5)) (blkOk_by (by kernel_rfl)) (fun _ _ _ _ _ => (pg_name2 6 nd)) (fun _ _ _ _ _ => (pts_one2 (pt_c (op_eq2 hu) (pd_ix hu (pd_ix hu (pd_var 0) (pd_var 6)) pd_int) (pd_var 7)))) (fun _ _ _ _ _ => (pd_var 6)) (fun _ _ _ _ _ => pd_bl)))
    (pss_cons2 (ps_set2 11 nd (pd_call ⟨C.c_drawn⟩ hr rfl (pa_cons2 (pd_var 0) (pa_cons2 (pd_var 1) (pa_cons2 (pd_var 5) (pa_cons2 (pd_var 8) (pa_cons2 (pd_var 10) (pa_cons2 (pd_var 9) pa_nil2))))))))
    (pss_cons2 (ps_lock2 5 (ps_asg2' (pd_call ⟨C.c_won_parts⟩ hr rfl (pa_cons2 (pd_var 0) (pa_cons2 (pd_var 1) (pa_cons2 (pd_matD (pD_dc [("k", 6)] rfl nd (pi_K (pd_var 5)) (blkOk_by (by kernel_rfl)) (fun _ _ _ _ _ => (pg_name2 6 nd)) (fun _ _ _ _ _ => (pts_one2 (pt_c (op_in2 hu5).2 (pd_var 6) (pd_var 11)))) (fun _ _ _ _ _ => (pd_var 6)) (fun _ _ _ _ _ => pd_bl))) pa_nil2)))) (pg_tup2 (n := 2) rfl (pgs_cons2 (pg_name2 12 nd) (pgs_cons2 (pg_name2 13 nd) pgs_nil2)))))
    (pss_one2 (ps_if2 (pt_c (op_eq2 hu) (pd_callB call_len2 rfl T.b_len PySem.boot_len (pa_cons2 (pd_ix hu (pd_var 12) (pd_bin op_sub2 pd_int (pd_var 8))) pa_nil2)) pd_int) (pss_cons2 (ps_expr2 (pd_bm PySem.F.plainAttrs_dict PySem.F.slot_dict_update PySem.F.type_dict_update mt_update2 (pd_ix hu (pd_var 3) (pd_var 8)) (pa_cons2 (pd_var 5) pa_nil2)))
    (pss_cons2 (ps_expr2 (pd_bm PySem.F.plainAttrs_dict PySem.F.slot_dict_update PySem.F.type_dict_update mt_update2 (pd_var 4) (pa_cons2 (pd_var 13) pa_nil2)))
    (pss_cons2 (ps_expr2 (pd_bm PySem.F.plainAttrs_dict PySem.F.slot_dict_update PySem.F.type_dict_update mt_update2 (pd_var 4) (pa_cons2 (pd_var 9) pa_nil2)))
    (pss_cons2 (ps_lock2 10 (ps_for2 PassesOwn.never rfl (pi_K (pd_var 10)) (pg_name2 6 nd) (pss_one2 (ps_if2 (pt_c (op_eq2 hu) (pd_ix hu (pd_ix hu (pd_var 0) (pd_var 6)) pd_int) (pd_var 8)) (pss_one2 (ps_put2 hu (pd_ixL (pl_lc [("goal", 16)] rfl nd (pi_E (pd_ix hu (pd_ix hu (pd_var 0) (pd_var 6)) pd_int)) (blkOk_by (by kernel_rfl)) (fun _ _ _ _ _ => (pg_name2 16 nd)) (fun _ _ _ _ _ => (pts_one2 (pt_c (op_in2 hu5).1 (pd_var 16) (pd_var 5)))) (fun _ _ _ _ _ => (pd_var 16))) pd_int) (pd_var 4) (pd_var 6))) pss_nil2))))
    (pss_one2 (ps_set2 5 nd (pd_matD (pD_nil false)))))))) (pss_cons2 (ps_set2 14 nd (pd_matD (pD_nil false)))
    (pss_cons2 (ps_set2 15 nd (pd_call ⟨C.c_drawn⟩ hr rfl (pa_cons2 (pd_var 0) (pa_cons2 (pd_var 1) (pa_cons2 (pd_var 5) (pa_cons2 (pd_bin op_sub2 pd_int (pd_var 8)) (pa_cons2 (pd_ix hu (pd_var 12) (pd_bin op_sub2 pd_int (pd_var 8))) (pa_cons2 (pd_var 14) pa_nil2))))))))
    (pss_cons2 (ps_expr2 (pd_bm PySem.F.plainAttrs_dict PySem.F.slot_dict_update PySem.F.type_dict_update mt_update2 (pd_ix hu (pd_var 3) (pd_bin op_sub2 pd_int (pd_var 8))) (pa_cons2 (pd_var 15) pa_nil2)))
    (pss_cons2 (ps_expr2 (pd_bm PySem.F.plainAttrs_dict PySem.F.slot_dict_update PySem.F.type_dict_update mt_update2 (pd_var 4) (pa_cons2 (pd_var 14) pa_nil2)))
    (pss_cons2 (ps_lock2 13 (ps_expr2 (pd_bm PySem.F.plainAttrs_dict PySem.F.slot_dict_update PySem.F.type_dict_update mt_update2 (pd_var 4) (pa_cons2 (pd_matD (pD_dc [("k", 6)] rfl nd (pi_K (pd_var 13)) (blkOk_by (by kernel_rfl)) (fun _ _ _ _ _ => (pg_name2 6 nd)) (fun _ _ _ _ _ => (pts_one2 (pt_c (op_in2 hu5).1 (pd_var 6) (pd_ix hu (pd_var 12) (pd_bin op_sub2 pd_int (pd_var 8)))))) (fun _ _ _ _ _ => (pd_var 6)) (fun _ _ _ _ _ => (pd_ix hu (pd_var 13) (pd_var 6))))) pa_nil2))))
    (pss_one2 (ps_lock2 5 (ps_set2 5 nd (pd_matD (pD_dc [("k", 6)] rfl nd (pi_K (pd_var 5)) (blkOk_by (by kernel_rfl)) (fun _ _ _ _ _ => (pg_name2 6 nd)) (fun _ _ _ _ _ => (pts_one2 (pt_c (op_in2 hu5).2 (pd_var 6) (pd_var 15)))) (fun _ _ _ _ _ => (pd_var 6)) (fun _ _ _ _ _ => pd_bl))))))))))))))))))))
    (pss_one2 (ps_ret2 (pd_tup (pa_cons2 (pd_var 3) (pa_cons2 (pd_var 4) pa_nil2)))))))))
theorem d_solved_game (T : Txt mg ⟨P, w, K⟩) (C : Cs P w K mg base k) (hr : Room k (A.deeper (envOfC "solved_game" (defScope s_solved_game) s.heap.objs.size f cdv))) :
    PSs2 (cxOf CX0 P w K mg base N_solved_game "solved_game" (defScope s_solved_game) f cdv A outer s H E).nox (defBody s_solved_game) (b_solved_game (WF K43.T k)) := by
  have nd : (N_solved_game).Nodup := sc_solved_game.nd
  have hu := hr.units
  have hu5 := hr.u65
  unfold b_solved_game
  exact (pss_cons2 (ps_asg2' (pd_call ⟨C.c_won_parts⟩ hr rfl (pa_cons2 (pd_var 0) (pa_cons2 (pd_call ⟨C.c_before_spots⟩ hr rfl (pa_cons2 (pd_var 0) pa_nil2)) (pa_cons2 (pd_matD (pD_dc [("k", 1)] rfl nd (pi_r1 rfl T.b_range (pd_callB call_len2 rfl T.b_len PySem.boot_len (pa_cons2 (pd_var 0) pa_nil2))) (blkOk_by (by kernel_rfl)) (fun _ _ _ _ _ => (pg_name2 1 nd)) (fun _ _ _ _ _ => pts_nil2) (fun _ _ _ _ _ => (pd_var 1)) (fun _ _ _ _ _ => pd_bl))) pa_nil2)))) (pg_tup2 (n := 2) rfl (pgs_cons2 (pg_name2 2 nd) (pgs_cons2 (pg_name2 3 nd) pgs_nil2))))
    (pss_cons2 (ps_set2 4 nd (pd_tupQ rfl T.b_tuple (pq_L (pl_lc [("k", 1)] rfl nd (pi_r1 rfl T.b_range (pd_callB call_len2 rfl T.b_len PySem.boot_len (pa_cons2 (pd_var 0) pa_nil2))) (blkOk_by (by kernel_rfl)) (fun _ _ _ _ _ => (pg_name2 1 nd)) (fun _ _ _ _ _ => pts_nil2) (fun _ _ _ _ _ => (pd_if (pt_c (op_in2 hu5).1 (pd_var 1) (pd_ix hu (pd_var 2) pd_int)) pd_int pd_int))))))
    (pss_cons2 (ps_set2 5 nd (pd_mat (pl_lst pa_nil2)))
    (pss_cons2 (ps_for2 PassesOwn.never rfl (pi_r1 rfl T.b_range (pd_callB call_len2 rfl T.b_len PySem.boot_len (pa_cons2 (pd_var 0) pa_nil2))) (pg_name2 1 nd) (pss_one2 (ps_expr2 (pd_bm PySem.F.plainAttrs_list PySem.F.slot_list_append PySem.F.type_list_append mt_append2 (pd_var 5) (pa_cons2 (pd_if (pt_c (op_eq2 hu) (pd_ix hu (pd_ix hu (pd_var 0) (pd_var 1)) pd_int) (pd_ix hu (pd_var 4) (pd_var 1))) (pd_ix hu (pd_var 3) (pd_var 1)) pd_non) pa_nil2)))))
    (pss_one2 (ps_ret2 (pd_tup (pa_cons2 (pd_var 4) (pa_cons2 (pd_tupQ rfl T.b_tuple (pq_E (pd_var 5))) pa_nil2)))))))))
theorem d__law_same (T : Txt mg ⟨P, w, K⟩) (C : Cs P w K mg base k) (hr : Room k (A.deeper (envOfC "_law_same" (defScope s__law_same) s.heap.objs.size f cdv))) :
    PSs2 (cxOf CX0 P w K mg base N__law_same "_law_same" (defScope s__law_same) f cdv A outer s H E).nox (defBody s__law_same) (b__law_same (WF K43.T k)) := by
  have nd : (N__law_same).Nodup := sc__law_same.nd
  have hu := hr.units
  have hu5 := hr.u65
  unfold b__law_same
  exact (pss_cons2 (ps_if2 (pt_w (pw_or2 (pt_v (pd_isi (T := "tuple") (.inr (.inr (.inr (.inl rfl)))) rfl T.b_isinstance rfl T.b_tuple (pd_var 1))) (pw_or12 (pt_v (pd_isi (T := "list") (.inr (.inr (.inr (.inr rfl)))) rfl T.b_isinstance rfl T.b_list (pd_var 1)))))) (pss_cons2 (ps_if2 (pt_w (pw_or2 (pt_c (op_ne2 hu) (pd_isi (T := "tuple") (.inr (.inr (.inr (.inl rfl)))) rfl T.b_isinstance rfl T.b_tuple (pd_var 1)) (pd_isi (T := "tuple") (.inr (.inr (.inr (.inl rfl)))) rfl T.b_isinstance rfl T.b_tuple (pd_var 0))) (pw_or2 (pt_c (op_ne2 hu) (pd_isi (T := "list") (.inr (.inr (.inr (.inr rfl)))) rfl T.b_isinstance rfl T.b_list (pd_var 1)) (pd_isi (T := "list") (.inr (.inr (.inr (.inr rfl)))) rfl T.b_isinstance rfl T.b_list (pd_var 0))) (pw_or12 (pt_c (op_ne2 hu) (pd_callB call_len2 rfl T.b_len PySem.boot_len (pa_cons2 (pd_var 0) pa_nil2)) (pd_callB call_len2 rfl T.b_len PySem.boot_len (pa_cons2 (pd_var 1) pa_nil2))))))) (pss_one2 (ps_ret2 pd_bl)) pss_nil2)
    (pss_one2 (ps_ret2 (pd_cmp2 (op_eq2 hu) (pd_lenQ rfl T.b_len (pq_L (pl_lc [("k", 2)] rfl nd (pi_r1 rfl T.b_range (pd_callB call_len2 rfl T.b_len PySem.boot_len (pa_cons2 (pd_var 1) pa_nil2))) (blkOk_by (by kernel_rfl)) (fun _ _ _ _ _ => (pg_name2 2 nd)) (fun _ _ _ _ _ => (pts_one2 (pt_not2 (pt_v (pd_call ⟨C.c__law_same⟩ hr rfl (pa_cons2 (pd_ix hu (pd_var 0) (pd_var 2)) (pa_cons2 (pd_ix hu (pd_var 1) (pd_var 2)) pa_nil2))))))) (fun _ _ _ _ _ => (pd_var 2))))) pd_int)))) pss_nil2)
    (pss_cons2 (ps_if2 (pt_c op_is2 (pd_var 1) pd_non) (pss_one2 (ps_ret2 (pd_cmp2 op_is2 (pd_var 0) pd_non))) pss_nil2)
    (pss_cons2 (ps_if2 (pt_w (pw_or2 (pt_v (pd_isi (T := "bool") (.inl rfl) rfl T.b_isinstance rfl T.b_bool (pd_var 1))) (pw_or12 (pt_v (pd_isi (T := "bool") (.inl rfl) rfl T.b_isinstance rfl T.b_bool (pd_var 0)))))) (pss_one2 (ps_ret2 (pd_and (pd_isi (T := "bool") (.inl rfl) rfl T.b_isinstance rfl T.b_bool (pd_var 1)) (pd_and (pd_isi (T := "bool") (.inl rfl) rfl T.b_isinstance rfl T.b_bool (pd_var 0)) (pd_one (pd_cmp2 (op_eq2 hu) (pd_var 0) (pd_var 1))))))) pss_nil2)
    (pss_cons2 (ps_if2 (pt_v (pd_isi (T := "int") (.inr (.inl rfl)) rfl T.b_isinstance rfl T.b_int (pd_var 1))) (pss_one2 (ps_ret2 (pd_and (pd_isi (T := "int") (.inr (.inl rfl)) rfl T.b_isinstance rfl T.b_int (pd_var 0)) (pd_one (pd_cmp2 (op_eq2 hu) (pd_var 0) (pd_var 1)))))) pss_nil2)
    (pss_one2 (ps_ret2 (pd_and (pd_isi (T := "str") (.inr (.inr (.inl rfl))) rfl T.b_isinstance rfl T.b_str (pd_var 0)) (pd_one (pd_cmp2 (op_eq2 hu) (pd_var 0) (pd_var 1))))))))))
theorem d__law_pool (T : Txt mg ⟨P, w, K⟩) (C : Cs P w K mg base k) (hr : Room k (A.deeper (envOfC "_law_pool" (defScope s__law_pool) s.heap.objs.size f cdv))) :
    PSs2 (cxOf CX0 P w K mg base N__law_pool "_law_pool" (defScope s__law_pool) f cdv A outer s H E).nox (defBody s__law_pool) (b__law_pool (WF K43.T k)) := by
  have nd : (N__law_pool).Nodup := sc__law_pool.nd
  have hu := hr.units
  have hu5 := hr.u65
  unfold b__law_pool
  exact (pss_cons2 (ps_set2 1 nd pd_int)
    (pss_cons2 (ps_for2 PassesOwn.never rfl (pi_L (pl_slice (pd_var 0) po_no (po_yes pd_int))) (pg_name2 2 nd) (pss_one2 (ps_set2 1 nd (pd_bin op_mod2 (pd_callTy call_int2 rfl T.b_int boot_int (pa_cons2 (pd_bin op_add2 (pd_bin op_mul2 (pd_var 1) pd_int) (pd_var 2)) pa_nil2)) pd_int))))
    (pss_one2 (ps_ret2 (pd_mat (pl_lst (pa_cons2 (pd_mat (pl_listQ rfl T.b_list (pq_E (pd_var 0)))) (pa_cons2 pd_int (pa_cons2 pd_int (pa_cons2 pd_int (pa_cons2 (pd_var 1) pa_nil2)))))))))))
theorem d__law_spread (T : Txt mg ⟨P, w, K⟩) (C : Cs P w K mg base k) (hr : Room k (A.deeper (envOfC "_law_spread" (defScope s__law_spread) s.heap.objs.size f cdv))) :
    PSs2 (cxOf CX0 P w K mg base N__law_spread "_law_spread" (defScope s__law_spread) f cdv A outer s H E).nox (defBody s__law_spread) (b__law_spread (WF K43.T k)) := by
  have nd : (N__law_spread).Nodup := sc__law_spread.nd
  have hu := hr.units
  have hu5 := hr.u65
  unfold b__law_spread
  exact (pss_cons2 (ps_set2 1 nd (pd_bin op_mod2 (pd_callTy call_int2 rfl T.b_int boot_int (pa_cons2 (pd_var 0) pa_nil2)) pd_int))
    (pss_cons2 (ps_set2 2 nd pd_int)
    (pss_cons2 (ps_for2 PassesOwn.never rfl (pi_r1 rfl T.b_range pd_int) (pg_name2 3 nd) (pss_cons2 (ps_set2 1 nd (pd_bin op_mod2 (pd_callTy call_int2 rfl T.b_int boot_int (pa_cons2 (pd_bin op_add2 (pd_bin op_add2 (pd_bin op_mul2 (pd_var 1) pd_int) pd_int) (pd_var 3)) pa_nil2)) pd_int))
    (pss_one2 (ps_set2 2 nd (pd_bin op_add2 (pd_bin op_mul2 (pd_var 2) pd_int) (pd_var 1))))))
    (pss_one2 (ps_ret2 (pd_var 2))))))
theorem d__law_draw (T : Txt mg ⟨P, w, K⟩) (C : Cs P w K mg base k) (hr : Room k (A.deeper (envOfC "_law_draw" (defScope s__law_draw) s.heap.objs.size f cdv))) :
    PSs2 (cxOf CX0 P w K mg base N__law_draw "_law_draw" (defScope s__law_draw) f cdv A outer s H E).nox (defBody s__law_draw) (b__law_draw (WF K43.T k)) := by
  have nd : (N__law_draw).Nodup := sc__law_draw.nd
  have hu := hr.units
  have hu5 := hr.u65
  unfold b__law_draw
  exact (pss_cons2 (ps_if2 (pt_w (pw_and2 (pt_c op_le2 (pd_ix hu (pd_var 0) pd_int) pd_int) (pw_and12 (pt_c op_lt2 (pd_ix hu (pd_var 0) pd_int) (pd_callB call_len2 rfl T.b_len PySem.boot_len (pa_cons2 (pd_ix hu (pd_var 0) pd_int) pa_nil2)))))) (pss_cons2 (ps_set2 2 nd (pd_ix hu (pd_ix hu (pd_var 0) pd_int) (pd_ix hu (pd_var 0) pd_int)))
    (pss_cons2 (ps_put2 hu (pd_bin op_add2 (pd_ix hu (pd_var 0) pd_int) pd_int) (pd_var 0) pd_int)
    (pss_cons2 (ps_put2 hu (pd_var 2) (pd_var 0) pd_int)
    (pss_one2 (ps_if2 (pt_c op_lt2 (pd_var 2) pd_int) (pss_one2 (ps_put2 hu (pd_call ⟨C.c__law_spread⟩ hr rfl (pa_cons2 (pd_var 2) pa_nil2)) (pd_var 0) pd_int)) pss_nil2))))) pss_nil2)
    (pss_cons2 (ps_put2 hu (pd_bin op_add2 (pd_ix hu (pd_var 0) pd_int) pd_int) (pd_var 0) pd_int)
    (pss_cons2 (ps_if2 (pt_c op_le2 (pd_ix hu (pd_var 0) pd_int) pd_int) (pss_cons2 (ps_set2 3 nd (pd_bin op_mod2 (pd_callTy call_int2 rfl T.b_int boot_int (pa_cons2 (pd_bin op_add2 (pd_bin op_add2 (pd_bin op_mul2 (pd_ix hu (pd_var 0) pd_int) pd_int) (pd_bin op_mul2 (pd_ix hu (pd_var 0) pd_int) pd_int)) pd_int) pa_nil2)) pd_int))
    (pss_cons2 (ps_set2 3 nd (pd_bin op_mod2 (pd_callTy call_int2 rfl T.b_int boot_int (pa_cons2 (pd_bin op_add2 (pd_bin op_mul2 (pd_var 3) pd_int) (pd_ix hu (pd_var 0) pd_int)) pa_nil2)) pd_int))
    (pss_one2 (ps_ret2 (pd_bin op_mod2 (pd_bin op_div2 (pd_var 3) pd_int) (pd_var 1)))))) pss_nil2)
    (pss_cons2 (ps_set2 4 nd (pd_bin op_mod2 (pd_callTy call_int2 rfl T.b_int boot_int (pa_cons2 (pd_ix hu (pd_var 0) pd_int) pa_nil2)) (pd_var 1)))
    (pss_cons2 (ps_put2 hu (pd_bin op_div2 (pd_ix hu (pd_var 0) pd_int) (pd_var 1)) (pd_var 0) pd_int)
    (pss_one2 (ps_ret2 (pd_var 4))))))))
theorem d__law_shuffled (T : Txt mg ⟨P, w, K⟩) (C : Cs P w K mg base k) (hr : Room k (A.deeper (envOfC "_law_shuffled" (defScope s__law_shuffled) s.heap.objs.size f cdv))) :
    PSs2 (cxOf CX0 P w K mg base N__law_shuffled "_law_shuffled" (defScope s__law_shuffled) f cdv A outer s H E).nox (defBody s__law_shuffled) (b__law_shuffled (WF K43.T k)) := by
  have nd : (N__law_shuffled).Nodup := sc__law_shuffled.nd
  have hu := hr.units
  have hu5 := hr.u65
  unfold b__law_shuffled
  exact (pss_cons2 (ps_set2 2 nd (pd_mat (pl_listQ rfl T.b_list (pq_E (pd_var 1)))))
    (pss_cons2 (ps_set2 3 nd (pd_mat (pl_lst pa_nil2)))
    (pss_cons2 (ps_while2 PassesOwn.never (pt_c op_gt2 (pd_callB call_len2 rfl T.b_len PySem.boot_len (pa_cons2 (pd_var 2) pa_nil2)) pd_int) (pss_cons2 (ps_set2 4 nd (pd_call ⟨C.c__law_draw⟩ hr rfl (pa_cons2 (pd_var 0) (pa_cons2 (pd_callB call_len2 rfl T.b_len PySem.boot_len (pa_cons2 (pd_var 2) pa_nil2)) pa_nil2))))
    (pss_cons2 (ps_expr2 (pd_bm PySem.F.plainAttrs_list PySem.F.slot_list_append PySem.F.type_list_append mt_append2 (pd_var 3) (pa_cons2 (pd_ix hu (pd_var 2) (pd_var 4)) pa_nil2)))
    (pss_one2 (ps_set2 2 nd (pd_bin op_add2 (pd_mat (pl_slice (pd_var 2) po_no (po_yes (pd_var 4)))) (pd_mat (pl_slice (pd_var 2) (po_yes (pd_bin op_add2 (pd_var 4) pd_int)) po_no))))))))
    (pss_one2 (ps_ret2 (pd_tpl rfl T.b_tuple (pf_E (pd_var 3))))))))
theorem d__law_game (T : Txt mg ⟨P, w, K⟩) (C : Cs P w K mg base k) (hr : Room k (A.deeper (envOfC "_law_game" (defScope s__law_game) s.heap.objs.size f cdv))) :
    PSs2 (cxOf CX0 P w K mg base N__law_game "_law_game" (defScope s__law_game) f cdv A outer s H E).nox (defBody s__law_game) (b__law_game (WF K43.T k)) := by
  have nd : (N__law_game).Nodup := sc__law_game.nd
  have hu := hr.units
  have hu5 := hr.u65
  unfold b__law_game
  exact (pss_cons2 (ps_set2 2 nd (pd_mat (pl_lst pa_nil2)))
    (pss_cons2 (ps_for2 PassesOwn.never rfl (pi_r1 rfl T.b_range (pd_var 1)) (pg_name2 3 nd) (pss_cons2 (ps_setLc2 4 [("j", 5)] rfl nd (pi_r1 rfl T.b_range (pd_bin op_add2 pd_int (pd_call ⟨C.c__law_draw⟩ hr rfl (pa_cons2 (pd_var 0) (pa_cons2 pd_int pa_nil2))))) (blkOk_by (by kernel_rfl)) (fun _ _ _ _ _ => (pg_name2 5 nd)) (fun _ _ _ _ _ => pts_nil2) (fun _ _ _ _ _ => (pd_call ⟨C.c__law_draw⟩ hr rfl (pa_cons2 (pd_var 0) (pa_cons2 (pd_var 1) pa_nil2)))))
    (pss_one2 (ps_expr2 (pd_bm PySem.F.plainAttrs_list PySem.F.slot_list_append PySem.F.type_list_append mt_append2 (pd_var 2) (pa_cons2 (pd_tup (pa_cons2 (pd_call ⟨C.c__law_draw⟩ hr rfl (pa_cons2 (pd_var 0) (pa_cons2 pd_int pa_nil2))) (pa_cons2 (pd_call ⟨C.c__law_draw⟩ hr rfl (pa_cons2 (pd_var 0) (pa_cons2 pd_int pa_nil2))) (pa_cons2 (pd_tupQ rfl T.b_tuple (pq_E (pd_var 4))) pa_nil2)))) pa_nil2))))))
    (pss_one2 (ps_ret2 (pd_tupQ rfl T.b_tuple (pq_E (pd_var 2)))))))
theorem d__law_part (T : Txt mg ⟨P, w, K⟩) (C : Cs P w K mg base k) (hr : Room k (A.deeper (envOfC "_law_part" (defScope s__law_part) s.heap.objs.size f cdv))) :
    PSs2 (cxOf CX0 P w K mg base N__law_part "_law_part" (defScope s__law_part) f cdv A outer s H E).nox (defBody s__law_part) (b__law_part (WF K43.T k)) := by
  have nd : (N__law_part).Nodup := sc__law_part.nd
  have hu := hr.units
  have hu5 := hr.u65
  unfold b__law_part
  exact (pss_cons2 (ps_set2 3 nd (pd_mat (pl_lst pa_nil2)))
    (pss_cons2 (ps_for2 PassesOwn.never rfl (pi_E (pd_var 1)) (pg_name2 4 nd) (pss_cons2 (ps_asg2' (pd_ix hu (pd_var 0) (pd_var 4)) (pg_tup2 (n := 3) rfl (pgs_cons2 (pg_name2 5 nd) (pgs_cons2 (pg_name2 6 nd) (pgs_cons2 (pg_name2 7 nd) pgs_nil2)))))
    (pss_cons2 (ps_setLc2 8 [("goal", 9)] rfl nd (pi_E (pd_var 7)) (blkOk_by (by kernel_rfl)) (fun _ _ _ _ _ => (pg_name2 9 nd)) (fun _ _ _ _ _ => (pts_one2 (pt_c (op_in2 hu5).1 (pd_var 9) (pd_var 1)))) (fun _ _ _ _ _ => (pd_bm PySem.F.plainAttrs_list PySem.F.slot_list_index PySem.F.type_list_index (mt_index2 hu5) (pd_var 1) (pa_cons2 (pd_var 9) pa_nil2))))
    (pss_one2 (ps_expr2 (pd_bm PySem.F.plainAttrs_list PySem.F.slot_list_append PySem.F.type_list_append mt_append2 (pd_var 3) (pa_cons2 (pd_tup (pa_cons2 (pd_var 5) (pa_cons2 (pd_var 6) (pa_cons2 (pd_if (pt_c op_isnot2 (pd_ix hu (pd_var 2) (pd_var 4)) pd_non) (pd_tup (pa_cons2 (pd_bm PySem.F.plainAttrs_list PySem.F.slot_list_index PySem.F.type_list_index (mt_index2 hu5) (pd_var 1) (pa_cons2 (pd_ix hu (pd_var 2) (pd_var 4)) pa_nil2)) pa_nil2)) (pd_tupQ rfl T.b_tuple (pq_E (pd_var 8)))) pa_nil2)))) pa_nil2)))))))
    (pss_one2 (ps_ret2 (pd_tupQ rfl T.b_tuple (pq_E (pd_var 3)))))))
theorem d_law (T : Txt mg ⟨P, w, K⟩) (C : Cs P w K mg base k) (hr : Room k (A.deeper (envOfC "law" (defScope s_law) s.heap.objs.size f cdv))) :
    PSs2 (cxOf CX0 P w K mg base N_law "law" (defScope s_law) f cdv A outer s H E).nox (defBody s_law) (b_law (WF K43.T k)) := by
  have nd : (N_law).Nodup := sc_law.nd
  have hu := hr.units
  have hu5 := hr.u65
  unfold b_law b_law_1 b_law_2 b_law_3 b_law_4 b_law_10 b_law_11 b_law_12 b_law_13 b_law_14 b_law_15 b_law_16 b_law_17 b_law_18 b_law_19 b_law_5 b_law_6 b_law_7 b_law_8 b_law_9
  exact (pss_cons2 (ps_set2 1 nd (pd_call ⟨C.c__law_pool⟩ hr rfl (pa_cons2 (pd_var 0) pa_nil2)))
    (pss_cons2 (ps_set2 2 nd (pd_call ⟨C.c__law_game⟩ hr rfl (pa_cons2 (pd_var 1) (pa_cons2 (pd_bin op_add2 pd_int (pd_call ⟨C.c__law_draw⟩ hr rfl (pa_cons2 (pd_var 1) (pa_cons2 pd_int pa_nil2)))) pa_nil2))))
    (pss_cons2 (ps_set2 3 nd (pd_callB call_len2 rfl T.b_len PySem.boot_len (pa_cons2 (pd_var 2) pa_nil2)))
    (pss_cons2 (ps_asg2' (pd_call ⟨C.c_solved_game⟩ hr rfl (pa_cons2 (pd_var 2) pa_nil2)) (pg_tup2 (n := 2) rfl (pgs_cons2 (pg_name2 4 nd) (pgs_cons2 (pg_name2 5 nd) pgs_nil2))))
    (pss_cons2 (ps_for2 PassesOwn.never rfl (pi_r1 rfl T.b_range pd_int) (pg_name2 6 nd) (pss_cons2 (ps_set2 8 nd (pd_mat (pl_lc [("k", 7)] rfl nd (pi_r1 rfl T.b_range (pd_var 3)) (blkOk_by (by kernel_rfl)) (fun _ _ _ _ _ => (pg_name2 7 nd)) (fun _ _ _ _ _ => (pts_one2 (pt_c (op_eq2 hu) (pd_ix hu (pd_var 4) (pd_var 7)) (pd_var 6)))) (fun _ _ _ _ _ => (pd_var 7)))))
    (pss_cons2 (ps_if2 (pt_c op_gt2 (pd_lenQ rfl T.b_len (pq_L (pl_lc [("k", 7)] rfl nd (pi_E (pd_var 8)) (blkOk_by (by kernel_rfl)) (fun _ _ _ _ _ => (pg_name2 7 nd)) (fun _ _ _ _ _ => (pts_one2 (pt_w (pw_and2 (pt_c (op_eq2 hu) (pd_ix hu (pd_ix hu (pd_var 2) (pd_var 7)) pd_int) (pd_var 6)) (pw_and12 (pt_w (pw_or2 (pt_c (op_in2 hu5).2 (pd_ix hu (pd_var 5) (pd_var 7)) (pd_ix hu (pd_ix hu (pd_var 2) (pd_var 7)) pd_int)) (pw_or12 (pt_c (op_in2 hu5).2 (pd_ix hu (pd_var 5) (pd_var 7)) (pd_var 8)))))))))) (fun _ _ _ _ _ => (pd_var 7))))) pd_int) (pss_one2 (ps_ret2 pd_bl)) pss_nil2)
    (pss_cons2 (ps_if2 (pt_c op_gt2 (pd_lenQ rfl T.b_len (pq_L (pl_lc [("k", 7)] rfl nd (pi_E (pd_var 8)) (blkOk_by (by kernel_rfl)) (fun _ _ _ _ _ => (pg_name2 7 nd)) (fun _ _ _ _ _ => (pts_one2 (pt_w (pw_and2 (pt_c (op_ne2 hu) (pd_ix hu (pd_ix hu (pd_var 2) (pd_var 7)) pd_int) (pd_var 6)) (pw_and12 (pt_c op_gt2 (pd_lenQ rfl T.b_len (pq_L (pl_lc [("goal", 9)] rfl nd (pi_E (pd_ix hu (pd_ix hu (pd_var 2) (pd_var 7)) pd_int)) (blkOk_by (by kernel_rfl)) (fun _ _ _ _ _ => (pg_name2 9 nd)) (fun _ _ _ _ _ => (pts_one2 (pt_c (op_in2 hu5).2 (pd_var 9) (pd_var 8)))) (fun _ _ _ _ _ => (pd_var 9))))) pd_int)))))) (fun _ _ _ _ _ => (pd_var 7))))) pd_int) (pss_one2 (ps_ret2 pd_bl)) pss_nil2)
    (pss_one2 (ps_if2 (pt_c (op_ne2 hu) (pd_var 8) (pd_mat (pl_lst pa_nil2))) (pss_one2 (ps_for2 PassesOwn.never rfl (pi_E (pd_tup (pa_cons2 (pd_repL (pl_lst (pa_cons2 pd_non pa_nil2)) (pd_var 3)) (pa_cons2 (pd_mat (pl_lc [("k", 7), ("move", 21)] rfl nd (pi_en rfl T.b_enumerate (pd_var 5)) (blkOk_by (by kernel_rfl)) (fun _ _ _ _ _ => (pg_tup2 (n := 2) rfl (pgs_cons2 (pg_name2 7 nd) (pgs_cons2 (pg_name2 21 nd) pgs_nil2)))) (fun _ _ _ _ _ => pts_nil2) (fun _ _ _ _ _ => (pd_if (pt_c (op_eq2 hu) (pd_ix hu (pd_var 4) (pd_var 7)) (pd_var 6)) (pd_var 21) pd_non)))) pa_nil2)))) (pg_name2 10 nd) (pss_cons2 (ps_set2 11 nd (pd_call ⟨C.c__law_part⟩ hr rfl (pa_cons2 (pd_var 2) (pa_cons2 (pd_var 8) (pa_cons2 (pd_var 10) pa_nil2)))))
    (pss_one2 (ps_if2 (pt_w (pw_or2 (pt_not2 (pt_v (pd_call ⟨C.c_is_game⟩ hr rfl (pa_cons2 (pd_var 11) pa_nil2)))) (pw_or12 (pt_c (op_ne2 hu) (pd_ix hu (pd_call ⟨C.c_solved_game⟩ hr rfl (pa_cons2 (pd_var 11) pa_nil2)) pd_int) (pd_bin op_mul2 (pd_tup (pa_cons2 (pd_var 6) pa_nil2)) (pd_callB call_len2 rfl T.b_len PySem.boot_len (pa_cons2 (pd_var 8) pa_nil2))))))) (pss_one2 (ps_ret2 pd_bl)) pss_nil2))))) pss_nil2))))))
    (pss_cons2 (ps_par2 7 9 rfl nd (pd_call ⟨C.c__law_draw⟩ hr rfl (pa_cons2 (pd_var 1) (pa_cons2 (pd_var 3) pa_nil2))) (pd_call ⟨C.c__law_draw⟩ hr rfl (pa_cons2 (pd_var 1) (pa_cons2 (pd_var 3) pa_nil2))))
    (pss_cons2 (ps_asg2' (pd_ix hu (pd_var 2) (pd_var 7)) (pg_tup2 (n := 3) rfl (pgs_cons2 (pg_name2 12 nd) (pgs_cons2 (pg_name2 13 nd) (pgs_cons2 (pg_name2 14 nd) pgs_nil2)))))
    (pss_cons2 (ps_set2 15 nd (pd_bin op_add2 (pd_bin op_add2 (pd_slice (pd_var 2) po_no (po_yes (pd_var 7))) (pd_tup (pa_cons2 (pd_tup (pa_cons2 (pd_var 12) (pa_cons2 (pd_var 13) (pa_cons2 (pd_bin op_add2 (pd_var 14) (pd_tup (pa_cons2 (pd_var 9) pa_nil2))) pa_nil2)))) pa_nil2))) (pd_slice (pd_var 2) (po_yes (pd_bin op_add2 (pd_var 7) pd_int)) po_no)))
    (pss_cons2 (ps_set2 16 nd (pd_ix hu (pd_call ⟨C.c_solved_game⟩ hr rfl (pa_cons2 (pd_var 15) pa_nil2)) pd_int))
    (pss_cons2 (ps_if2 (pt_c op_gt2 (pd_lenQ rfl T.b_len (pq_L (pl_lc [("j", 22)] rfl nd (pi_r1 rfl T.b_range (pd_var 3)) (blkOk_by (by kernel_rfl)) (fun _ _ _ _ _ => (pg_name2 22 nd)) (fun _ _ _ _ _ => (pts_one2 (pt_w (pw_and2 (pt_c (op_eq2 hu) (pd_ix hu (pd_var 4) (pd_var 22)) (pd_var 12)) (pw_and12 (pt_c (op_ne2 hu) (pd_ix hu (pd_var 16) (pd_var 22)) (pd_var 12))))))) (fun _ _ _ _ _ => (pd_var 22))))) pd_int) (pss_one2 (ps_ret2 pd_bl)) pss_nil2)
    (pss_cons2 (ps_if2 (pt_w (pw_and2 (pt_c (op_eq2 hu) (pd_ix hu (pd_var 4) (pd_var 7)) (pd_var 12)) (pw_and12 (pt_c (op_ne2 hu) (pd_var 16) (pd_var 4))))) (pss_one2 (ps_ret2 pd_bl)) pss_nil2)
    (pss_cons2 (ps_set2 17 nd (pd_tupQ rfl T.b_tuple (pq_L (pl_lc [("a", 23), ("b", 24), ("c", 25)] rfl nd (pi_E (pd_var 2)) (blkOk_by (by kernel_rfl)) (fun _ _ _ _ _ => (pg_tup2 (n := 3) rfl (pgs_cons2 (pg_name2 23 nd) (pgs_cons2 (pg_name2 24 nd) (pgs_cons2 (pg_name2 25 nd) pgs_nil2))))) (fun _ _ _ _ _ => pts_nil2) (fun _ _ _ _ _ => (pd_tup (pa_cons2 (pd_var 23) (pa_cons2 (pd_bin op_add2 (pd_var 24) pd_int) (pa_cons2 (pd_var 25) pa_nil2)))))))))
    (pss_cons2 (ps_set2 18 nd (pd_call ⟨C.c__law_shuffled⟩ hr rfl (pa_cons2 (pd_var 1) (pa_cons2 (pd_mat (pl_rng rfl rfl T.b_list rfl T.b_range (pd_var 3))) pa_nil2))))
    (pss_cons2 (ps_set2 19 nd (pd_tupQ rfl T.b_tuple (pq_L (pl_lc [("j", 22)] rfl nd (pi_E (pd_var 18)) (blkOk_by (by kernel_rfl)) (fun _ _ _ _ _ => (pg_name2 22 nd)) (fun _ _ _ _ _ => pts_nil2) (fun _ _ _ _ _ => (pd_tup (pa_cons2 (pd_ix hu (pd_ix hu (pd_var 2) (pd_var 22)) pd_int) (pa_cons2 (pd_ix hu (pd_ix hu (pd_var 2) (pd_var 22)) pd_int) (pa_cons2 (pd_tupQ rfl T.b_tuple (pq_L (pl_lc [("goal", 9)] rfl nd (pi_E (pd_ix hu (pd_ix hu (pd_var 2) (pd_var 22)) pd_int)) (blkOk_by (by kernel_rfl)) (fun _ _ _ _ _ => (pg_name2 9 nd)) (fun _ _ _ _ _ => pts_nil2) (fun _ _ _ _ _ => (pd_bm PySem.F.plainAttrs_tuple PySem.F.slot_tuple_index PySem.F.type_tuple_index mt_indexT2 (pd_var 18) (pa_cons2 (pd_var 9) pa_nil2)))))) pa_nil2)))))))))
    (pss_cons2 (ps_set2 20 nd (pd_tupQ rfl T.b_tuple (pq_L (pl_lc [("a", 23), ("b", 24), ("c", 25)] rfl nd (pi_E (pd_var 2)) (blkOk_by (by kernel_rfl)) (fun _ _ _ _ _ => (pg_tup2 (n := 3) rfl (pgs_cons2 (pg_name2 23 nd) (pgs_cons2 (pg_name2 24 nd) (pgs_cons2 (pg_name2 25 nd) pgs_nil2))))) (fun _ _ _ _ _ => pts_nil2) (fun _ _ _ _ _ => (pd_tup (pa_cons2 (pd_var 23) (pa_cons2 (pd_var 24) (pa_cons2 (pd_bin op_add2 (pd_var 25) (pd_revT (pd_var 25))) pa_nil2)))))))))
    (pss_one2 (ps_ret2 (pd_call ⟨C.c__law_same⟩ hr rfl (pa_cons2 (pd_mat (pl_lst (pa_cons2 (pd_ix hu (pd_call ⟨C.c_solved_game⟩ hr rfl (pa_cons2 (pd_var 17) pa_nil2)) pd_int) (pa_cons2 (pd_ix hu (pd_call ⟨C.c_solved_game⟩ hr rfl (pa_cons2 (pd_var 20) pa_nil2)) pd_int) (pa_cons2 (pd_ix hu (pd_call ⟨C.c_solved_game⟩ hr rfl (pa_cons2 (pd_var 19) pa_nil2)) pd_int) pa_nil2))))) (pa_cons2 (pd_mat (pl_lst (pa_cons2 (pd_var 4) (pa_cons2 (pd_var 4) (pa_cons2 (pd_tupQ rfl T.b_tuple (pq_L (pl_lc [("j", 22)] rfl nd (pi_E (pd_var 18)) (blkOk_by (by kernel_rfl)) (fun _ _ _ _ _ => (pg_name2 22 nd)) (fun _ _ _ _ _ => pts_nil2) (fun _ _ _ _ _ => (pd_ix hu (pd_var 4) (pd_var 22)))))) pa_nil2))))) pa_nil2))))))))))))))))))))
end
structure Fs (K : PySem.W.Frag) (mg : Str → Option Value) : Prop where
  f_is_whole : ∃ a fd, Fun K "is_whole" "is_whole" s_is_whole a fd ∧ mg "is_whole" = some (.ref a) ∧ PySem.W.keepIn K (.ref a) = true ∧ Binds K fd ["value"] []
  f_is_spot : ∃ a fd, Fun K "is_spot" "is_spot" s_is_spot a fd ∧ mg "is_spot" = some (.ref a) ∧ PySem.W.keepIn K (.ref a) = true ∧ Binds K fd ["many", "value"] []
  f_is_game : ∃ a fd, Fun K "is_game" "is_game" s_is_game a fd ∧ mg "is_game" = some (.ref a) ∧ PySem.W.keepIn K (.ref a) = true ∧ Binds K fd ["value"] []
  f_before_spots : ∃ a fd, Fun K "before_spots" "before_spots" s_before_spots a fd ∧ mg "before_spots" = some (.ref a) ∧ PySem.W.keepIn K (.ref a) = true ∧ Binds K fd ["game"] []
  f_drawn : ∃ a fd, Fun K "drawn" "drawn" s_drawn a fd ∧ mg "drawn" = some (.ref a) ∧ PySem.W.keepIn K (.ref a) = true ∧ Binds K fd ["game", "before", "spots", "player", "goals", "moves"] []
  f_won_parts : ∃ a fd, Fun K "won_parts" "won_parts" s_won_parts a fd ∧ mg "won_parts" = some (.ref a) ∧ PySem.W.keepIn K (.ref a) = true ∧ Binds K fd ["game", "before", "spots"] []
  f_solved_game : ∃ a fd, Fun K "solved_game" "solved_game" s_solved_game a fd ∧ mg "solved_game" = some (.ref a) ∧ PySem.W.keepIn K (.ref a) = true ∧ Binds K fd ["game"] []
  f__law_same : ∃ a fd, Fun K "_law_same" "_law_same" s__law_same a fd ∧ mg "_law_same" = some (.ref a) ∧ PySem.W.keepIn K (.ref a) = true ∧ Binds K fd ["actual", "due"] []
  f__law_pool : ∃ a fd, Fun K "_law_pool" "_law_pool" s__law_pool a fd ∧ mg "_law_pool" = some (.ref a) ∧ PySem.W.keepIn K (.ref a) = true ∧ Binds K fd ["script"] []
  f__law_spread : ∃ a fd, Fun K "_law_spread" "_law_spread" s__law_spread a fd ∧ mg "_law_spread" = some (.ref a) ∧ PySem.W.keepIn K (.ref a) = true ∧ Binds K fd ["cell"] []
  f__law_draw : ∃ a fd, Fun K "_law_draw" "_law_draw" s__law_draw a fd ∧ mg "_law_draw" = some (.ref a) ∧ PySem.W.keepIn K (.ref a) = true ∧ Binds K fd ["pool", "many"] []
  f__law_shuffled : ∃ a fd, Fun K "_law_shuffled" "_law_shuffled" s__law_shuffled a fd ∧ mg "_law_shuffled" = some (.ref a) ∧ PySem.W.keepIn K (.ref a) = true ∧ Binds K fd ["pool", "items"] []
  f__law_game : ∃ a fd, Fun K "_law_game" "_law_game" s__law_game a fd ∧ mg "_law_game" = some (.ref a) ∧ PySem.W.keepIn K (.ref a) = true ∧ Binds K fd ["pool", "many"] []
  f__law_part : ∃ a fd, Fun K "_law_part" "_law_part" s__law_part a fd ∧ mg "_law_part" = some (.ref a) ∧ PySem.W.keepIn K (.ref a) = true ∧ Binds K fd ["game", "spots", "moves"] []
  f_law : ∃ a fd, Fun K "law" "law" s_law a fd ∧ mg "law" = some (.ref a) ∧ PySem.W.keepIn K (.ref a) = true ∧ Binds K fd ["script"] []
theorem cs_all {P : Program} {w : World} {K : PySem.W.Frag} {mg : Str → Option Value} {base : Heap} (T : Txt mg ⟨P, w, K⟩) (F : Fs K mg) : ∀ k, Cs P w K mg base k
  | 0 => {
      c_is_whole := let ⟨a, fd, _, m, kp, b⟩ := F.f_is_whole; ⟨a, fd, _, FnOk.zero, m, kp, b⟩
      c_is_spot := let ⟨a, fd, _, m, kp, b⟩ := F.f_is_spot; ⟨a, fd, _, FnOk.zero, m, kp, b⟩
      c_is_game := let ⟨a, fd, _, m, kp, b⟩ := F.f_is_game; ⟨a, fd, _, FnOk.zero, m, kp, b⟩
      c_before_spots := let ⟨a, fd, _, m, kp, b⟩ := F.f_before_spots; ⟨a, fd, _, FnOk.zero, m, kp, b⟩
      c_drawn := let ⟨a, fd, _, m, kp, b⟩ := F.f_drawn; ⟨a, fd, _, FnOk.zero, m, kp, b⟩
      c_won_parts := let ⟨a, fd, _, m, kp, b⟩ := F.f_won_parts; ⟨a, fd, _, FnOk.zero, m, kp, b⟩
      c_solved_game := let ⟨a, fd, _, m, kp, b⟩ := F.f_solved_game; ⟨a, fd, _, FnOk.zero, m, kp, b⟩
      c__law_same := let ⟨a, fd, _, m, kp, b⟩ := F.f__law_same; ⟨a, fd, _, FnOk.zero, m, kp, b⟩
      c__law_pool := let ⟨a, fd, _, m, kp, b⟩ := F.f__law_pool; ⟨a, fd, _, FnOk.zero, m, kp, b⟩
      c__law_spread := let ⟨a, fd, _, m, kp, b⟩ := F.f__law_spread; ⟨a, fd, _, FnOk.zero, m, kp, b⟩
      c__law_draw := let ⟨a, fd, _, m, kp, b⟩ := F.f__law_draw; ⟨a, fd, _, FnOk.zero, m, kp, b⟩
      c__law_shuffled := let ⟨a, fd, _, m, kp, b⟩ := F.f__law_shuffled; ⟨a, fd, _, FnOk.zero, m, kp, b⟩
      c__law_game := let ⟨a, fd, _, m, kp, b⟩ := F.f__law_game; ⟨a, fd, _, FnOk.zero, m, kp, b⟩
      c__law_part := let ⟨a, fd, _, m, kp, b⟩ := F.f__law_part; ⟨a, fd, _, FnOk.zero, m, kp, b⟩
      c_law := let ⟨a, fd, _, m, kp, b⟩ := F.f_law; ⟨a, fd, _, FnOk.zero, m, kp, b⟩
    }
  | k + 1 => {
      c_is_whole := let ⟨a, fd, Z, m, kp, b⟩ := F.f_is_whole; ⟨a, fd, _, FnOk.succ (T := K43.T) (i := 0) Z sc_is_whole rfl rfl fun _ _ _ _ _ _ hr => d_is_whole T (cs_all T F k) hr, m, kp, b⟩
      c_is_spot := let ⟨a, fd, Z, m, kp, b⟩ := F.f_is_spot; ⟨a, fd, _, FnOk.succ (T := K43.T) (i := 1) Z sc_is_spot rfl rfl fun _ _ _ _ _ _ hr => d_is_spot T (cs_all T F k) hr, m, kp, b⟩
      c_is_game := let ⟨a, fd, Z, m, kp, b⟩ := F.f_is_game; ⟨a, fd, _, FnOk.succ (T := K43.T) (i := 2) Z sc_is_game rfl rfl fun _ _ _ _ _ _ hr => d_is_game T (cs_all T F k) hr, m, kp, b⟩
      c_before_spots := let ⟨a, fd, Z, m, kp, b⟩ := F.f_before_spots; ⟨a, fd, _, FnOk.succ (T := K43.T) (i := 3) Z sc_before_spots rfl rfl fun _ _ _ _ _ _ hr => d_before_spots T (cs_all T F k) hr, m, kp, b⟩
      c_drawn := let ⟨a, fd, Z, m, kp, b⟩ := F.f_drawn; ⟨a, fd, _, FnOk.succ (T := K43.T) (i := 4) Z sc_drawn rfl rfl fun _ _ _ _ _ _ hr => d_drawn T (cs_all T F k) hr, m, kp, b⟩
      c_won_parts := let ⟨a, fd, Z, m, kp, b⟩ := F.f_won_parts; ⟨a, fd, _, FnOk.succ (T := K43.T) (i := 5) Z sc_won_parts rfl rfl fun _ _ _ _ _ _ hr => d_won_parts T (cs_all T F k) hr, m, kp, b⟩
      c_solved_game := let ⟨a, fd, Z, m, kp, b⟩ := F.f_solved_game; ⟨a, fd, _, FnOk.succ (T := K43.T) (i := 6) Z sc_solved_game rfl rfl fun _ _ _ _ _ _ hr => d_solved_game T (cs_all T F k) hr, m, kp, b⟩
      c__law_same := let ⟨a, fd, Z, m, kp, b⟩ := F.f__law_same; ⟨a, fd, _, FnOk.succ (T := K43.T) (i := 7) Z sc__law_same rfl rfl fun _ _ _ _ _ _ hr => d__law_same T (cs_all T F k) hr, m, kp, b⟩
      c__law_pool := let ⟨a, fd, Z, m, kp, b⟩ := F.f__law_pool; ⟨a, fd, _, FnOk.succ (T := K43.T) (i := 8) Z sc__law_pool rfl rfl fun _ _ _ _ _ _ hr => d__law_pool T (cs_all T F k) hr, m, kp, b⟩
      c__law_spread := let ⟨a, fd, Z, m, kp, b⟩ := F.f__law_spread; ⟨a, fd, _, FnOk.succ (T := K43.T) (i := 9) Z sc__law_spread rfl rfl fun _ _ _ _ _ _ hr => d__law_spread T (cs_all T F k) hr, m, kp, b⟩
      c__law_draw := let ⟨a, fd, Z, m, kp, b⟩ := F.f__law_draw; ⟨a, fd, _, FnOk.succ (T := K43.T) (i := 10) Z sc__law_draw rfl rfl fun _ _ _ _ _ _ hr => d__law_draw T (cs_all T F k) hr, m, kp, b⟩
      c__law_shuffled := let ⟨a, fd, Z, m, kp, b⟩ := F.f__law_shuffled; ⟨a, fd, _, FnOk.succ (T := K43.T) (i := 11) Z sc__law_shuffled rfl rfl fun _ _ _ _ _ _ hr => d__law_shuffled T (cs_all T F k) hr, m, kp, b⟩
      c__law_game := let ⟨a, fd, Z, m, kp, b⟩ := F.f__law_game; ⟨a, fd, _, FnOk.succ (T := K43.T) (i := 12) Z sc__law_game rfl rfl fun _ _ _ _ _ _ hr => d__law_game T (cs_all T F k) hr, m, kp, b⟩
      c__law_part := let ⟨a, fd, Z, m, kp, b⟩ := F.f__law_part; ⟨a, fd, _, FnOk.succ (T := K43.T) (i := 13) Z sc__law_part rfl rfl fun _ _ _ _ _ _ hr => d__law_part T (cs_all T F k) hr, m, kp, b⟩
      c_law := let ⟨a, fd, Z, m, kp, b⟩ := F.f_law; ⟨a, fd, _, FnOk.succ (T := K43.T) (i := 14) Z sc_law rfl rfl fun _ _ _ _ _ _ hr => d_law T (cs_all T F k) hr, m, kp, b⟩
    }
theorem all_mk {l : PySem.W.OpenLaw} {w : World} {K : PySem.W.Frag} {h : Heap} {mg : Str → Option Value} {fa : Addr} (X : K.In h) (G : h.Ns mainGlobals mg) (hfa : mg "law" = some (.ref fa))
    {a0 : Addr} {od0 an0 : Option Addr} {sl0 : Array (Option Value)} {oc0 kV0 dc0 pm0 cd0 ct0 : Value}
    {a1 : Addr} {od1 an1 : Option Addr} {sl1 : Array (Option Value)} {oc1 kV1 dc1 pm1 cd1 ct1 : Value}
    {a2 : Addr} {od2 an2 : Option Addr} {sl2 : Array (Option Value)} {oc2 kV2 dc2 pm2 cd2 ct2 : Value}
    {a3 : Addr} {od3 an3 : Option Addr} {sl3 : Array (Option Value)} {oc3 kV3 dc3 pm3 cd3 ct3 : Value}
    {a4 : Addr} {od4 an4 : Option Addr} {sl4 : Array (Option Value)} {oc4 kV4 dc4 pm4 cd4 ct4 : Value}
    {a5 : Addr} {od5 an5 : Option Addr} {sl5 : Array (Option Value)} {oc5 kV5 dc5 pm5 cd5 ct5 : Value}
    {a6 : Addr} {od6 an6 : Option Addr} {sl6 : Array (Option Value)} {oc6 kV6 dc6 pm6 cd6 ct6 : Value}
    {a7 : Addr} {od7 an7 : Option Addr} {sl7 : Array (Option Value)} {oc7 kV7 dc7 pm7 cd7 ct7 : Value}
    {a8 : Addr} {od8 an8 : Option Addr} {sl8 : Array (Option Value)} {oc8 kV8 dc8 pm8 cd8 ct8 : Value}
    {a9 : Addr} {od9 an9 : Option Addr} {sl9 : Array (Option Value)} {oc9 kV9 dc9 pm9 cd9 ct9 : Value}
    {a10 : Addr} {od10 an10 : Option Addr} {sl10 : Array (Option Value)} {oc10 kV10 dc10 pm10 cd10 ct10 : Value}
    {a11 : Addr} {od11 an11 : Option Addr} {sl11 : Array (Option Value)} {oc11 kV11 dc11 pm11 cd11 ct11 : Value}
    {a12 : Addr} {od12 an12 : Option Addr} {sl12 : Array (Option Value)} {oc12 kV12 dc12 pm12 cd12 ct12 : Value}
    {a13 : Addr} {od13 an13 : Option Addr} {sl13 : Array (Option Value)} {oc13 kV13 dc13 pm13 cd13 ct13 : Value}
    {a14 : Addr} {od14 an14 : Option Addr} {sl14 : Array (Option Value)} {oc14 kV14 dc14 pm14 cd14 ct14 : Value}
    {t_MOST_SPOTS : Tok}
    (a_0 : PySem.W.nsIn K mainGlobals "is_whole" = some (some (.ref a0))) (l_0 : K.lookup a0 = some ⟨oc0, od0, .func (PySem.W.fnOf "is_whole" "is_whole" (defArgs s_is_whole) (defBody s_is_whole) (defScope s_is_whole) .none kV0 dc0 pm0 an0 cd0 ct0), sl0⟩) (c_0 : PySem.W.codeIn K cd0 "is_whole" = true) (k_0 : PySem.W.keepIn K (.ref a0) = true)
    (a_1 : PySem.W.nsIn K mainGlobals "is_spot" = some (some (.ref a1))) (l_1 : K.lookup a1 = some ⟨oc1, od1, .func (PySem.W.fnOf "is_spot" "is_spot" (defArgs s_is_spot) (defBody s_is_spot) (defScope s_is_spot) .none kV1 dc1 pm1 an1 cd1 ct1), sl1⟩) (c_1 : PySem.W.codeIn K cd1 "is_spot" = true) (k_1 : PySem.W.keepIn K (.ref a1) = true)
    (a_2 : PySem.W.nsIn K mainGlobals "is_game" = some (some (.ref a2))) (l_2 : K.lookup a2 = some ⟨oc2, od2, .func (PySem.W.fnOf "is_game" "is_game" (defArgs s_is_game) (defBody s_is_game) (defScope s_is_game) .none kV2 dc2 pm2 an2 cd2 ct2), sl2⟩) (c_2 : PySem.W.codeIn K cd2 "is_game" = true) (k_2 : PySem.W.keepIn K (.ref a2) = true)
    (a_3 : PySem.W.nsIn K mainGlobals "before_spots" = some (some (.ref a3))) (l_3 : K.lookup a3 = some ⟨oc3, od3, .func (PySem.W.fnOf "before_spots" "before_spots" (defArgs s_before_spots) (defBody s_before_spots) (defScope s_before_spots) .none kV3 dc3 pm3 an3 cd3 ct3), sl3⟩) (c_3 : PySem.W.codeIn K cd3 "before_spots" = true) (k_3 : PySem.W.keepIn K (.ref a3) = true)
    (a_4 : PySem.W.nsIn K mainGlobals "drawn" = some (some (.ref a4))) (l_4 : K.lookup a4 = some ⟨oc4, od4, .func (PySem.W.fnOf "drawn" "drawn" (defArgs s_drawn) (defBody s_drawn) (defScope s_drawn) .none kV4 dc4 pm4 an4 cd4 ct4), sl4⟩) (c_4 : PySem.W.codeIn K cd4 "drawn" = true) (k_4 : PySem.W.keepIn K (.ref a4) = true)
    (a_5 : PySem.W.nsIn K mainGlobals "won_parts" = some (some (.ref a5))) (l_5 : K.lookup a5 = some ⟨oc5, od5, .func (PySem.W.fnOf "won_parts" "won_parts" (defArgs s_won_parts) (defBody s_won_parts) (defScope s_won_parts) .none kV5 dc5 pm5 an5 cd5 ct5), sl5⟩) (c_5 : PySem.W.codeIn K cd5 "won_parts" = true) (k_5 : PySem.W.keepIn K (.ref a5) = true)
    (a_6 : PySem.W.nsIn K mainGlobals "solved_game" = some (some (.ref a6))) (l_6 : K.lookup a6 = some ⟨oc6, od6, .func (PySem.W.fnOf "solved_game" "solved_game" (defArgs s_solved_game) (defBody s_solved_game) (defScope s_solved_game) .none kV6 dc6 pm6 an6 cd6 ct6), sl6⟩) (c_6 : PySem.W.codeIn K cd6 "solved_game" = true) (k_6 : PySem.W.keepIn K (.ref a6) = true)
    (a_7 : PySem.W.nsIn K mainGlobals "_law_same" = some (some (.ref a7))) (l_7 : K.lookup a7 = some ⟨oc7, od7, .func (PySem.W.fnOf "_law_same" "_law_same" (defArgs s__law_same) (defBody s__law_same) (defScope s__law_same) .none kV7 dc7 pm7 an7 cd7 ct7), sl7⟩) (c_7 : PySem.W.codeIn K cd7 "_law_same" = true) (k_7 : PySem.W.keepIn K (.ref a7) = true)
    (a_8 : PySem.W.nsIn K mainGlobals "_law_pool" = some (some (.ref a8))) (l_8 : K.lookup a8 = some ⟨oc8, od8, .func (PySem.W.fnOf "_law_pool" "_law_pool" (defArgs s__law_pool) (defBody s__law_pool) (defScope s__law_pool) .none kV8 dc8 pm8 an8 cd8 ct8), sl8⟩) (c_8 : PySem.W.codeIn K cd8 "_law_pool" = true) (k_8 : PySem.W.keepIn K (.ref a8) = true)
    (a_9 : PySem.W.nsIn K mainGlobals "_law_spread" = some (some (.ref a9))) (l_9 : K.lookup a9 = some ⟨oc9, od9, .func (PySem.W.fnOf "_law_spread" "_law_spread" (defArgs s__law_spread) (defBody s__law_spread) (defScope s__law_spread) .none kV9 dc9 pm9 an9 cd9 ct9), sl9⟩) (c_9 : PySem.W.codeIn K cd9 "_law_spread" = true) (k_9 : PySem.W.keepIn K (.ref a9) = true)
    (a_10 : PySem.W.nsIn K mainGlobals "_law_draw" = some (some (.ref a10))) (l_10 : K.lookup a10 = some ⟨oc10, od10, .func (PySem.W.fnOf "_law_draw" "_law_draw" (defArgs s__law_draw) (defBody s__law_draw) (defScope s__law_draw) .none kV10 dc10 pm10 an10 cd10 ct10), sl10⟩) (c_10 : PySem.W.codeIn K cd10 "_law_draw" = true) (k_10 : PySem.W.keepIn K (.ref a10) = true)
    (a_11 : PySem.W.nsIn K mainGlobals "_law_shuffled" = some (some (.ref a11))) (l_11 : K.lookup a11 = some ⟨oc11, od11, .func (PySem.W.fnOf "_law_shuffled" "_law_shuffled" (defArgs s__law_shuffled) (defBody s__law_shuffled) (defScope s__law_shuffled) .none kV11 dc11 pm11 an11 cd11 ct11), sl11⟩) (c_11 : PySem.W.codeIn K cd11 "_law_shuffled" = true) (k_11 : PySem.W.keepIn K (.ref a11) = true)
    (a_12 : PySem.W.nsIn K mainGlobals "_law_game" = some (some (.ref a12))) (l_12 : K.lookup a12 = some ⟨oc12, od12, .func (PySem.W.fnOf "_law_game" "_law_game" (defArgs s__law_game) (defBody s__law_game) (defScope s__law_game) .none kV12 dc12 pm12 an12 cd12 ct12), sl12⟩) (c_12 : PySem.W.codeIn K cd12 "_law_game" = true) (k_12 : PySem.W.keepIn K (.ref a12) = true)
    (a_13 : PySem.W.nsIn K mainGlobals "_law_part" = some (some (.ref a13))) (l_13 : K.lookup a13 = some ⟨oc13, od13, .func (PySem.W.fnOf "_law_part" "_law_part" (defArgs s__law_part) (defBody s__law_part) (defScope s__law_part) .none kV13 dc13 pm13 an13 cd13 ct13), sl13⟩) (c_13 : PySem.W.codeIn K cd13 "_law_part" = true) (k_13 : PySem.W.keepIn K (.ref a13) = true)
    (a_14 : PySem.W.nsIn K mainGlobals "law" = some (some (.ref a14))) (l_14 : K.lookup a14 = some ⟨oc14, od14, .func (PySem.W.fnOf "law" "law" (defArgs s_law) (defBody s_law) (defScope s_law) .none kV14 dc14 pm14 an14 cd14 ct14), sl14⟩) (c_14 : PySem.W.codeIn K cd14 "law" = true) (k_14 : PySem.W.keepIn K (.ref a14) = true)
    (z_all : PySem.W.nsIn K mainGlobals "all" = some none)
    (z_bool : PySem.W.nsIn K mainGlobals "bool" = some none)
    (z_dict : PySem.W.nsIn K mainGlobals "dict" = some none)
    (z_enumerate : PySem.W.nsIn K mainGlobals "enumerate" = some none)
    (z_int : PySem.W.nsIn K mainGlobals "int" = some none)
    (z_isinstance : PySem.W.nsIn K mainGlobals "isinstance" = some none)
    (z_len : PySem.W.nsIn K mainGlobals "len" = some none)
    (z_list : PySem.W.nsIn K mainGlobals "list" = some none)
    (z_max : PySem.W.nsIn K mainGlobals "max" = some none)
    (z_range : PySem.W.nsIn K mainGlobals "range" = some none)
    (z_set : PySem.W.nsIn K mainGlobals "set" = some none)
    (z_sorted : PySem.W.nsIn K mainGlobals "sorted" = some none)
    (z_str : PySem.W.nsIn K mainGlobals "str" = some none)
    (z_tuple : PySem.W.nsIn K mainGlobals "tuple" = some none)
    (g_MOST_SPOTS : PySem.W.nsIn K mainGlobals "MOST_SPOTS" = some (some (.int 2000 t_MOST_SPOTS)))
    (law : ∀ ns : List Int, ns.length ≤ 63 → (∀ z ∈ ns, Builtin.Int.intBits z ≤ 1048576) → WF K43.T 40 14 [.scr ns] (fun _ => none) fun d _ => d = .bl true) :
    ∃ fd : FuncData, (∀ (s : Shared) (v : Value), BindsTo s fd ⟨[v], []⟩ [("script", v)]) ∧ ∀ base : Heap, K.In base → base.Ns mainGlobals mg → FnOk l.prog w K mg base CX0 40 fa fd ["script"] (spLawD K) := by
  have e := hfa.symm.trans (PySem.W.mg_of X G a_14)
  cases e
  have T : Txt mg ⟨l.prog, w, K⟩ := {
    b_all := PySem.W.mg_none_of X G z_all
    b_bool := PySem.W.mg_none_of X G z_bool
    b_dict := PySem.W.mg_none_of X G z_dict
    b_enumerate := PySem.W.mg_none_of X G z_enumerate
    b_int := PySem.W.mg_none_of X G z_int
    b_isinstance := PySem.W.mg_none_of X G z_isinstance
    b_len := PySem.W.mg_none_of X G z_len
    b_list := PySem.W.mg_none_of X G z_list
    b_max := PySem.W.mg_none_of X G z_max
    b_range := PySem.W.mg_none_of X G z_range
    b_set := PySem.W.mg_none_of X G z_set
    b_sorted := PySem.W.mg_none_of X G z_sorted
    b_str := PySem.W.mg_none_of X G z_str
    b_tuple := PySem.W.mg_none_of X G z_tuple
    g_MOST_SPOTS := ⟨.int 2000, _, PySem.W.mg_of X G g_MOST_SPOTS, ⟨_, rfl⟩, fun _ => .int _⟩
  }
  have F : Fs K mg := {
    f_is_whole := ⟨_, _, fun_mk (st := s_is_whole) l_0 c_0 k_0, PySem.W.mg_of X G a_0, k_0, (fun_mk (st := s_is_whole) l_0 c_0 k_0).binds (ps := ["value"]) fun _ _ _ _ _ _ us hl => match us, hl with | [_], _ => rfl⟩
    f_is_spot := ⟨_, _, fun_mk (st := s_is_spot) l_1 c_1 k_1, PySem.W.mg_of X G a_1, k_1, (fun_mk (st := s_is_spot) l_1 c_1 k_1).binds (ps := ["many", "value"]) fun _ _ _ _ _ _ us hl => match us, hl with | [_, _], _ => rfl⟩
    f_is_game := ⟨_, _, fun_mk (st := s_is_game) l_2 c_2 k_2, PySem.W.mg_of X G a_2, k_2, (fun_mk (st := s_is_game) l_2 c_2 k_2).binds (ps := ["value"]) fun _ _ _ _ _ _ us hl => match us, hl with | [_], _ => rfl⟩
    f_before_spots := ⟨_, _, fun_mk (st := s_before_spots) l_3 c_3 k_3, PySem.W.mg_of X G a_3, k_3, (fun_mk (st := s_before_spots) l_3 c_3 k_3).binds (ps := ["game"]) fun _ _ _ _ _ _ us hl => match us, hl with | [_], _ => rfl⟩
    f_drawn := ⟨_, _, fun_mk (st := s_drawn) l_4 c_4 k_4, PySem.W.mg_of X G a_4, k_4, (fun_mk (st := s_drawn) l_4 c_4 k_4).binds (ps := ["game", "before", "spots", "player", "goals", "moves"]) fun _ _ _ _ _ _ us hl => match us, hl with | [_, _, _, _, _, _], _ => rfl⟩
    f_won_parts := ⟨_, _, fun_mk (st := s_won_parts) l_5 c_5 k_5, PySem.W.mg_of X G a_5, k_5, (fun_mk (st := s_won_parts) l_5 c_5 k_5).binds (ps := ["game", "before", "spots"]) fun _ _ _ _ _ _ us hl => match us, hl with | [_, _, _], _ => rfl⟩
    f_solved_game := ⟨_, _, fun_mk (st := s_solved_game) l_6 c_6 k_6, PySem.W.mg_of X G a_6, k_6, (fun_mk (st := s_solved_game) l_6 c_6 k_6).binds (ps := ["game"]) fun _ _ _ _ _ _ us hl => match us, hl with | [_], _ => rfl⟩
    f__law_same := ⟨_, _, fun_mk (st := s__law_same) l_7 c_7 k_7, PySem.W.mg_of X G a_7, k_7, (fun_mk (st := s__law_same) l_7 c_7 k_7).binds (ps := ["actual", "due"]) fun _ _ _ _ _ _ us hl => match us, hl with | [_, _], _ => rfl⟩
    f__law_pool := ⟨_, _, fun_mk (st := s__law_pool) l_8 c_8 k_8, PySem.W.mg_of X G a_8, k_8, (fun_mk (st := s__law_pool) l_8 c_8 k_8).binds (ps := ["script"]) fun _ _ _ _ _ _ us hl => match us, hl with | [_], _ => rfl⟩
    f__law_spread := ⟨_, _, fun_mk (st := s__law_spread) l_9 c_9 k_9, PySem.W.mg_of X G a_9, k_9, (fun_mk (st := s__law_spread) l_9 c_9 k_9).binds (ps := ["cell"]) fun _ _ _ _ _ _ us hl => match us, hl with | [_], _ => rfl⟩
    f__law_draw := ⟨_, _, fun_mk (st := s__law_draw) l_10 c_10 k_10, PySem.W.mg_of X G a_10, k_10, (fun_mk (st := s__law_draw) l_10 c_10 k_10).binds (ps := ["pool", "many"]) fun _ _ _ _ _ _ us hl => match us, hl with | [_, _], _ => rfl⟩
    f__law_shuffled := ⟨_, _, fun_mk (st := s__law_shuffled) l_11 c_11 k_11, PySem.W.mg_of X G a_11, k_11, (fun_mk (st := s__law_shuffled) l_11 c_11 k_11).binds (ps := ["pool", "items"]) fun _ _ _ _ _ _ us hl => match us, hl with | [_, _], _ => rfl⟩
    f__law_game := ⟨_, _, fun_mk (st := s__law_game) l_12 c_12 k_12, PySem.W.mg_of X G a_12, k_12, (fun_mk (st := s__law_game) l_12 c_12 k_12).binds (ps := ["pool", "many"]) fun _ _ _ _ _ _ us hl => match us, hl with | [_, _], _ => rfl⟩
    f__law_part := ⟨_, _, fun_mk (st := s__law_part) l_13 c_13 k_13, PySem.W.mg_of X G a_13, k_13, (fun_mk (st := s__law_part) l_13 c_13 k_13).binds (ps := ["game", "spots", "moves"]) fun _ _ _ _ _ _ us hl => match us, hl with | [_, _, _], _ => rfl⟩
    f_law := ⟨_, _, fun_mk (st := s_law) l_14 c_14 k_14, PySem.W.mg_of X G a_14, k_14, (fun_mk (st := s_law) l_14 c_14 k_14).binds (ps := ["script"]) fun _ _ _ _ _ _ us hl => match us, hl with | [_], _ => rfl⟩
  }
  exact ⟨PySem.W.fnOf "law" "law" (defArgs s_law) (defBody s_law) (defScope s_law) .none kV14 dc14 pm14 an14 cd14 ct14, fun s v => .of_eq rfl, fun base _ _ => (FnOk.succ (T := K43.T) (i := 14) (fun_mk (st := s_law) l_14 c_14 k_14) sc_law rfl rfl fun _ _ _ _ _ _ hr => d_law T (cs_all T F 39) hr).imp (lawD law)⟩
theorem walk {l : PySem.W.OpenLaw} {q : Program} {loose : List Str} {XP : (Str → Option Value) → Heap → Prop} {YP : World → Heap → Prop} {d : DefRec} {K : Params → PySem.W.Frag} (hn : l.most = some 63) (hdf : d.params.defaults = [])
    (hY : ∀ (w : World) (h : Heap), YP w h → (K w.params).In h)
    (F : ∀ (w : World) (mg : Str → Option Value) (fa : Addr) (h : Heap), (K w.params).In h → h.Ns mainGlobals mg → mg d.name = some (.ref fa) →
      ∃ fd : FuncData, (∀ (s : Shared) (u : Value), BindsTo s fd ⟨[u], []⟩ [("script", u)]) ∧ ∀ base : Heap, (K w.params).In base → base.Ns mainGlobals mg → FnOk l.prog w (K w.params) mg base CX0 40 fa fd ["script"] (spLawD (K w.params))) :
    PySem.W.WalkO q loose XP YP l.row.toRowW d [] (fun f vs => PySem.call f vs) :=
  L2.walk_ofB (n := 63) (k := 40) (x := "script") (CX := fun _ => CX0) (sp := fun w => spLawD (K w.params)) hn (by decide) hdf ⟨rfl, by decide, by decide⟩ hY F (fun _ _ a ns hl hb hO hS => ⟨a, ns, rfl, hO, hS, hl, hb, fun _ => rfl⟩) fun _ _ _ _ _ z => z
end K43

set_option Elab.async false
set_option linter.all false
set_option maxRecDepth 100000
set_option maxHeartbeats 4000000
namespace K43
open PySem PySem.Spec PyProof.Rows L2 SD
theorem run {k i : Nat} {ds : List D} {G : Gp} {Q : VK2} (hl : ds.length = (T i).ar) (h : (T i).bd (WF T k) { nx := fun _ G' => endK Q .non G', rt := endK Q } (st0 (T i) ds) G) : WF T (k + 1) i ds G Q := ⟨hl, h⟩
theorem mulOk {i j : Int} (h1 : 0 ≤ i) (h2 : i < 2 ^ 200) (h3 : 0 ≤ j) (h4 : j < 2 ^ 200) : CMulW i j :=
  wide_mul (a := 200) (b := 200) (by omega) (by omega) (by decide) (by decide) (by decide)
theorem mulOk' {i j : Int} (h1 : 0 ≤ i) (h2 : i < 2 ^ 200) (h3 : -(2 ^ 200) < j) (h4 : j < 2 ^ 200) : CMulW i j :=
  wide_mul (a := 200) (b := 200) (by omega) (by omega) (by decide) (by decide) (by decide)
theorem fmod_lt (a : Int) {b : Int} (h : 0 < b) : 0 ≤ a.fmod b ∧ a.fmod b < b := ⟨Int.fmod_nonneg_of_pos a h, Int.fmod_lt_of_pos a h⟩
def spB : Nat → Int
  | 0 => 2
  | n + 1 => spB n * 2147483647
theorem rngD_mem {lo : Int} {n : Nat} {x : D} {pre post : List D} (e : rngD lo n = pre ++ x :: post) : pre.length < n ∧ x = .int (lo + pre.length) := by
  have h1 : pre.length < n := by
    have := congrArg List.length e
    simp [rngD] at this
    omega
  refine ⟨h1, ?_⟩
  have h2 : (rngD lo n)[pre.length]? = some x := by rw [e]; simp
  unfold rngD at h2
  rw [List.getElem?_map, List.getElem?_range h1] at h2
  exact (Option.some.inj h2).symm
theorem w_spread {k : Nat} {c : Int} {G : Gp} {Q : VK2} (q : ∀ r : Int, 0 ≤ r → Q (.int r) G) : WF T (k + 1) i__law_spread [.int c] G Q := by
  refine run rfl ?_
  show b__law_spread (WF T k) _ [some (.int c), none, none, none] G
  unfold b__law_spread
  simp only [dVar, dC, dTup, dCons, dNil, dMat, dOp, dTest, dAnd, dOr, dNot, dAndV, dOrV, dNotV, dIf, dChain, asB, slot, wipe2, dSeq, dNext, dSet, dRet, dRetN, dDrop, dIfS, dBreak, dCont, dNever, dgName, dgNil, dgCons, dgTup, dAsg, dPar, dAug, dCall, dMeth, tyG, dIsi, isB, dLenQ, dTupQ, dAny, dAll, dMaxL, dLc, dDc, dMatD, dNil0, dYes, pdCopyG, plKeysG, dAugS, sSet, sPut, dSorSetT, dLenSet, oNo, oYes, dSlL, dSlT, dRepL, dIxL, dTpl, fE, qE, dLRng, dRevT, dNeg, iE, iL, iR1, iR2, iK, iEn, dFor, dLock, oAdd, oSub, oMul, oDiv, oMod, oLt, oLe, oGt, oGe, oEq, oNe, oIn, oNotIn, oIx, oIs, oIsNot, oI, SD.isNon, inB, ixB, ixC, eqB_int, eqB_bl, eqB_str, at_nat, atI_0, atI_1, atI_2, atI_3, atI_4, ixN_0, ixN_1, ixN_2, ixN_3, ixN_4, KeyC, lenB, SD.rLen, rInt, rMax2, mAppend, mExtend, mPop, mIndex, mIndexT, mUpdate, intsD, intsOf, bools, List.set_cons_zero, List.set_cons_succ, List.length_cons, List.length_nil, Bool.not_true, Bool.not_false, if_true, if_false, Bool.false_eq_true, true_and, and_true, Option.bind_some, List.getElem?_cons_succ, List.getElem?_cons_zero, decide_eq_true_eq, Bool.not_eq_true, gput_same, gput_gput, Option.map_some, ↓reduceIte, ite_true, String.reduceBEq, String.reduceEq, decide_true, decide_false, beq_self_eq_true]
  refine ⟨by decide, ⟨by decide, by decide⟩, ?_⟩
  refine for_inv (ds := rngD 0 (Int.toNat 4)) (fun pre δ G' => G' = G ∧ ∃ (m t : Int) (x : Option D), δ = [some (.int c), some (.int m), some (.int t), x] ∧ 0 ≤ m ∧ m < 2147483647 ∧ 0 ≤ t ∧ t + 1 ≤ spB pre.length) ?_ ?_ _ [] _ _ rfl
    ⟨rfl, _, _, _, rfl, (fmod_lt c (by decide)).1, (fmod_lt c (by decide)).2, by decide, by decide⟩
  · rintro pre x post δ G' e ⟨rfl, m, t, y, rfl, h1, h2, h3, h4⟩
    refine ⟨trivial, fun nx hx => ?_⟩
    obtain ⟨hl, rfl⟩ := rngD_mem e
    have hl' : pre.length < 4 := hl
    have hb : spB pre.length ≤ 2 ^ 199 := by
      have : pre.length = 0 ∨ pre.length = 1 ∨ pre.length = 2 ∨ pre.length = 3 := by omega
      rcases this with h | h | h | h <;> rw [h] <;> decide
    simp only [dVar, dC, dTup, dCons, dNil, dMat, dOp, dTest, dAnd, dOr, dNot, dAndV, dOrV, dNotV, dIf, dChain, asB, slot, wipe2, dSeq, dNext, dSet, dRet, dRetN, dDrop, dIfS, dBreak, dCont, dNever, dgName, dgNil, dgCons, dgTup, dAsg, dPar, dAug, dCall, dMeth, tyG, dIsi, isB, dLenQ, dTupQ, dAny, dAll, dMaxL, dLc, dDc, dMatD, dNil0, dYes, pdCopyG, plKeysG, dAugS, sSet, sPut, dSorSetT, dLenSet, oNo, oYes, dSlL, dSlT, dRepL, dIxL, dTpl, fE, qE, dLRng, dRevT, dNeg, iE, iL, iR1, iR2, iK, iEn, dFor, dLock, oAdd, oSub, oMul, oDiv, oMod, oLt, oLe, oGt, oGe, oEq, oNe, oIn, oNotIn, oIx, oIs, oIsNot, oI, SD.isNon, inB, ixB, ixC, eqB_int, eqB_bl, eqB_str, at_nat, atI_0, atI_1, atI_2, atI_3, atI_4, ixN_0, ixN_1, ixN_2, ixN_3, ixN_4, KeyC, lenB, SD.rLen, rInt, rMax2, mAppend, mExtend, mPop, mIndex, mIndexT, mUpdate, intsD, intsOf, bools, List.set_cons_zero, List.set_cons_succ, List.length_cons, List.length_nil, Bool.not_true, Bool.not_false, if_true, if_false, Bool.false_eq_true, true_and, and_true, Option.bind_some, List.getElem?_cons_succ, List.getElem?_cons_zero, decide_eq_true_eq, Bool.not_eq_true, gput_same, gput_gput, Option.map_some, ↓reduceIte, ite_true, String.reduceBEq, String.reduceEq, decide_true, decide_false, beq_self_eq_true]
    refine ⟨mulOk h1 (by omega) (by decide) (by decide), by decide, mulOk h3 (by omega) (by decide) (by decide), hx _ _ ⟨rfl, _, _, _, rfl, ?_⟩⟩
    have f := fmod_lt (m * 48271 + 12345 + (0 + (pre.length : Int))) (b := 2147483647) (by decide)
    refine ⟨f.1, f.2, by omega, ?_⟩
    rw [List.length_append]
    show _ ≤ spB pre.length * 2147483647
    have : (t + 1) * 2147483647 ≤ spB pre.length * 2147483647 := by omega
    omega
  · rintro δ G' ⟨rfl, m, t, y, rfl, h1, h2, h3, h4⟩
    simp only [dVar, dC, dTup, dCons, dNil, dMat, dOp, dTest, dAnd, dOr, dNot, dAndV, dOrV, dNotV, dIf, dChain, asB, slot, wipe2, dSeq, dNext, dSet, dRet, dRetN, dDrop, dIfS, dBreak, dCont, dNever, dgName, dgNil, dgCons, dgTup, dAsg, dPar, dAug, dCall, dMeth, tyG, dIsi, isB, dLenQ, dTupQ, dAny, dAll, dMaxL, dLc, dDc, dMatD, dNil0, dYes, pdCopyG, plKeysG, dAugS, sSet, sPut, dSorSetT, dLenSet, oNo, oYes, dSlL, dSlT, dRepL, dIxL, dTpl, fE, qE, dLRng, dRevT, dNeg, iE, iL, iR1, iR2, iK, iEn, dFor, dLock, oAdd, oSub, oMul, oDiv, oMod, oLt, oLe, oGt, oGe, oEq, oNe, oIn, oNotIn, oIx, oIs, oIsNot, oI, SD.isNon, inB, ixB, ixC, eqB_int, eqB_bl, eqB_str, at_nat, atI_0, atI_1, atI_2, atI_3, atI_4, ixN_0, ixN_1, ixN_2, ixN_3, ixN_4, KeyC, lenB, SD.rLen, rInt, rMax2, mAppend, mExtend, mPop, mIndex, mIndexT, mUpdate, intsD, intsOf, bools, List.set_cons_zero, List.set_cons_succ, List.length_cons, List.length_nil, Bool.not_true, Bool.not_false, if_true, if_false, Bool.false_eq_true, true_and, and_true, Option.bind_some, List.getElem?_cons_succ, List.getElem?_cons_zero, decide_eq_true_eq, Bool.not_eq_true, gput_same, gput_gput, Option.map_some, ↓reduceIte, ite_true, String.reduceBEq, String.reduceEq, decide_true, decide_false, beq_self_eq_true]
    exact .now .refl (q _ h3)
/-- a pool: its cells, how far, what is left of the cell, how many draws (at most N), the salt -/
structure PoolOk (G : Gp) (a s : Addr) (N : Nat) : Prop where
  ok : ∃ (l : Bool) (cells : List Int) (i v c salt : Int), G a = some (.lst false [.ref s, .int i, .int v, .int c, .int salt]) ∧ G s = some (.lst l (cells.map D.int)) ∧ s ≠ a ∧ 0 ≤ i ∧ 0 ≤ c ∧ c ≤ N ∧ 0 ≤ salt ∧ salt < 1000003
theorem PoolOk.of {G G' : Gp} {a s : Addr} {N N' : Nat} (P : PoolOk G a s N) (h : N ≤ N') (ha : G' a = G a) (hs : G' s = G s) : PoolOk G' a s N' := by
  obtain ⟨l, cells, i, v, c, salt, h1, h2, h3, h4, h5, h6, h7⟩ := P.ok
  exact ⟨l, cells, i, v, c, salt, ha.trans h1, hs.trans h2, h3, h4, h5, by omega, h7⟩
theorem PoolOk.ne {G : Gp} {a s : Addr} {N : Nat} (P : PoolOk G a s N) : s ≠ a ∧ (∃ m, G a = some m) ∧ ∃ m, G s = some m := by
  obtain ⟨l, cells, i, v, c, salt, h1, h2, h3, _⟩ := P.ok
  exact ⟨h3, ⟨_, h1⟩, ⟨_, h2⟩⟩
theorem gput_at {G : Gp} {a b : Addr} {m : MO} (h : b ≠ a) : gput G a m b = G b := gput_ne h
theorem w_draw {k : Nat} {a s : Addr} {many : Int} {N : Nat} {G : Gp} {Q : VK2} (P : PoolOk G a s N) (hN : N < bigN) (h1 : 0 < many) (h2 : many < 1000000)
    (q : ∀ (r : Int) (G' : Gp), 0 ≤ r → r < many → PoolOk G' a s (N + 1) → (∀ b, b ≠ a → G' b = G b) → Q (.int r) G') : WF T (k + 2) i__law_draw [.ref a, .int many] G Q := by
  rw [bigN_eq] at hN
  obtain ⟨l, cells, i, v, c, salt, hGa, hGs, hsa, hi, hc, hcN, hs0, hs1⟩ := P.ok
  refine run rfl ?_
  show b__law_draw (WF T (k + 1)) _ [some (.ref a), some (.int many), none, none, none] G
  unfold b__law_draw
  refine seq_gen (fun δ' G' => ∃ (x : Option D) (i v : Int), δ' = [some (.ref a), some (.int many), x, none, none] ∧ G' a = some (.lst false [.ref s, .int i, .int v, .int c, .int salt]) ∧ (∀ b, b ≠ a → G' b = G b) ∧ 0 ≤ i) (fun K hK => ?_) ?_
  · refine if_i ?_
    simp only [dVar, dC, dTup, dCons, dNil, dMat, dOp, dTest, dAnd, dOr, dNot, dAndV, dOrV, dNotV, dIf, dChain, asB, slot, wipe2, dSeq, dNext, dSet, dRet, dRetN, dDrop, dIfS, dBreak, dCont, dNever, dgName, dgNil, dgCons, dgTup, dAsg, dPar, dAug, dCall, dMeth, tyG, dIsi, isB, dLenQ, dTupQ, dAny, dAll, dMaxL, dLc, dDc, dMatD, dNil0, dYes, pdCopyG, plKeysG, dAugS, sSet, sPut, dSorSetT, dLenSet, oNo, oYes, dSlL, dSlT, dRepL, dIxL, dTpl, fE, qE, dLRng, dRevT, dNeg, iE, iL, iR1, iR2, iK, iEn, dFor, dLock, oAdd, oSub, oMul, oDiv, oMod, oLt, oLe, oGt, oGe, oEq, oNe, oIn, oNotIn, oIx, oIs, oIsNot, oI, SD.isNon, inB, ixB, ixC, eqB_int, eqB_bl, eqB_str, at_nat, atI_0, atI_1, atI_2, atI_3, atI_4, ixN_0, ixN_1, ixN_2, ixN_3, ixN_4, KeyC, lenB, SD.rLen, rInt, rMax2, mAppend, mExtend, mPop, mIndex, mIndexT, mUpdate, intsD, intsOf, bools, List.set_cons_zero, List.set_cons_succ, List.length_cons, List.length_nil, Bool.not_true, Bool.not_false, if_true, if_false, Bool.false_eq_true, true_and, and_true, Option.bind_some, List.getElem?_cons_succ, List.getElem?_cons_zero, decide_eq_true_eq, Bool.not_eq_true, gput_same, gput_gput, Option.map_some, ↓reduceIte, ite_true, String.reduceBEq, String.reduceEq, decide_true, decide_false, beq_self_eq_true, hGa, hGs]
    refine ite2 (fun hv => ?_) fun hv => hK _ _ ⟨_, i, v, rfl, hGa, fun _ _ => rfl, hi⟩
    refine ite2 (fun hl => ?_) fun hl => hK _ _ ⟨_, i, v, rfl, hGa, fun _ _ => rfl, hi⟩
    obtain ⟨n, rfl⟩ : ∃ n : Nat, i = (n : Int) := ⟨i.toNat, by omega⟩
    rw [List.length_map] at hl
    have hn : n < cells.length := by omega
    rw [at_nat, List.getElem?_map, List.getElem?_eq_getElem hn]
    simp only [dVar, dC, dTup, dCons, dNil, dMat, dOp, dTest, dAnd, dOr, dNot, dAndV, dOrV, dNotV, dIf, dChain, asB, slot, wipe2, dSeq, dNext, dSet, dRet, dRetN, dDrop, dIfS, dBreak, dCont, dNever, dgName, dgNil, dgCons, dgTup, dAsg, dPar, dAug, dCall, dMeth, tyG, dIsi, isB, dLenQ, dTupQ, dAny, dAll, dMaxL, dLc, dDc, dMatD, dNil0, dYes, pdCopyG, plKeysG, dAugS, sSet, sPut, dSorSetT, dLenSet, oNo, oYes, dSlL, dSlT, dRepL, dIxL, dTpl, fE, qE, dLRng, dRevT, dNeg, iE, iL, iR1, iR2, iK, iEn, dFor, dLock, oAdd, oSub, oMul, oDiv, oMod, oLt, oLe, oGt, oGe, oEq, oNe, oIn, oNotIn, oIx, oIs, oIsNot, oI, SD.isNon, inB, ixB, ixC, eqB_int, eqB_bl, eqB_str, at_nat, atI_0, atI_1, atI_2, atI_3, atI_4, ixN_0, ixN_1, ixN_2, ixN_3, ixN_4, KeyC, lenB, SD.rLen, rInt, rMax2, mAppend, mExtend, mPop, mIndex, mIndexT, mUpdate, intsD, intsOf, bools, List.set_cons_zero, List.set_cons_succ, List.length_cons, List.length_nil, Bool.not_true, Bool.not_false, if_true, if_false, Bool.false_eq_true, true_and, and_true, Option.bind_some, List.getElem?_cons_succ, List.getElem?_cons_zero, decide_eq_true_eq, Bool.not_eq_true, gput_same, gput_gput, Option.map_some, ↓reduceIte, ite_true, String.reduceBEq, String.reduceEq, decide_true, decide_false, beq_self_eq_true]
    refine ite2 (fun hc => ?_) fun hc => hK _ _ ⟨_, _, _, rfl, gput_same, fun b hb => gput_ne hb, by omega⟩
    refine w_spread fun r hr => ?_
    simp only [dVar, dC, dTup, dCons, dNil, dMat, dOp, dTest, dAnd, dOr, dNot, dAndV, dOrV, dNotV, dIf, dChain, asB, slot, wipe2, dSeq, dNext, dSet, dRet, dRetN, dDrop, dIfS, dBreak, dCont, dNever, dgName, dgNil, dgCons, dgTup, dAsg, dPar, dAug, dCall, dMeth, tyG, dIsi, isB, dLenQ, dTupQ, dAny, dAll, dMaxL, dLc, dDc, dMatD, dNil0, dYes, pdCopyG, plKeysG, dAugS, sSet, sPut, dSorSetT, dLenSet, oNo, oYes, dSlL, dSlT, dRepL, dIxL, dTpl, fE, qE, dLRng, dRevT, dNeg, iE, iL, iR1, iR2, iK, iEn, dFor, dLock, oAdd, oSub, oMul, oDiv, oMod, oLt, oLe, oGt, oGe, oEq, oNe, oIn, oNotIn, oIx, oIs, oIsNot, oI, SD.isNon, inB, ixB, ixC, eqB_int, eqB_bl, eqB_str, at_nat, atI_0, atI_1, atI_2, atI_3, atI_4, ixN_0, ixN_1, ixN_2, ixN_3, ixN_4, KeyC, lenB, SD.rLen, rInt, rMax2, mAppend, mExtend, mPop, mIndex, mIndexT, mUpdate, intsD, intsOf, bools, List.set_cons_zero, List.set_cons_succ, List.length_cons, List.length_nil, Bool.not_true, Bool.not_false, if_true, if_false, Bool.false_eq_true, true_and, and_true, Option.bind_some, List.getElem?_cons_succ, List.getElem?_cons_zero, decide_eq_true_eq, Bool.not_eq_true, gput_same, gput_gput, Option.map_some, ↓reduceIte, ite_true, String.reduceBEq, String.reduceEq, decide_true, decide_false, beq_self_eq_true]
    exact hK _ _ ⟨_, _, _, rfl, gput_same, fun b hb => gput_ne hb, by omega⟩
  · rintro δ' G' ⟨x, i, v, rfl, hGa, hG, hi⟩
    refine seq_i ?_
    simp only [dVar, dC, dTup, dCons, dNil, dMat, dOp, dTest, dAnd, dOr, dNot, dAndV, dOrV, dNotV, dIf, dChain, asB, slot, wipe2, dSeq, dNext, dSet, dRet, dRetN, dDrop, dIfS, dBreak, dCont, dNever, dgName, dgNil, dgCons, dgTup, dAsg, dPar, dAug, dCall, dMeth, tyG, dIsi, isB, dLenQ, dTupQ, dAny, dAll, dMaxL, dLc, dDc, dMatD, dNil0, dYes, pdCopyG, plKeysG, dAugS, sSet, sPut, dSorSetT, dLenSet, oNo, oYes, dSlL, dSlT, dRepL, dIxL, dTpl, fE, qE, dLRng, dRevT, dNeg, iE, iL, iR1, iR2, iK, iEn, dFor, dLock, oAdd, oSub, oMul, oDiv, oMod, oLt, oLe, oGt, oGe, oEq, oNe, oIn, oNotIn, oIx, oIs, oIsNot, oI, SD.isNon, inB, ixB, ixC, eqB_int, eqB_bl, eqB_str, at_nat, atI_0, atI_1, atI_2, atI_3, atI_4, ixN_0, ixN_1, ixN_2, ixN_3, ixN_4, KeyC, lenB, SD.rLen, rInt, rMax2, mAppend, mExtend, mPop, mIndex, mIndexT, mUpdate, intsD, intsOf, bools, List.set_cons_zero, List.set_cons_succ, List.length_cons, List.length_nil, Bool.not_true, Bool.not_false, if_true, if_false, Bool.false_eq_true, true_and, and_true, Option.bind_some, List.getElem?_cons_succ, List.getElem?_cons_zero, decide_eq_true_eq, Bool.not_eq_true, gput_same, gput_gput, Option.map_some, ↓reduceIte, ite_true, String.reduceBEq, String.reduceEq, decide_true, decide_false, beq_self_eq_true, hGa]
    have hG1 : ∀ b, b ≠ a → gput G' a (.lst false [.ref s, .int i, .int v, .int (c + 1), .int salt]) b = G b := fun b hb => by rw [gput_ne hb]; exact hG b hb
    have fin : ∀ (v' : Int) (r : Int), 0 ≤ r → r < many → Q (.int r) (gput G' a (.lst false [.ref s, .int i, .int v', .int (c + 1), .int salt])) := fun v' r h0 h1 =>
      q r _ h0 h1 ⟨l, cells, i, v', c + 1, salt, gput_same, by rw [gput_ne hsa, hG s hsa]; exact hGs, hsa, hi, by omega, by omega, hs0, hs1⟩ fun b hb => by rw [gput_ne hb]; exact hG b hb
    have b1 : (4 : Int) < 2 ^ 200 := by decide
    refine ite2 (fun hv => ?_) fun hv => ?_
    · have f1 := fmod_lt (salt * 48271 + (c + 1) * 69621 + 1) (b := 2147483647) (by decide)
      have f2 := fmod_lt ((salt * 48271 + (c + 1) * 69621 + 1).fmod 2147483647 * 16807 + (c + 1)) (b := 2147483629) (by decide)
      have f3 := fmod_lt (((salt * 48271 + (c + 1) * 69621 + 1).fmod 2147483647 * 16807 + (c + 1)).fmod 2147483629 / 5) h1
      refine ⟨mulOk hs0 (by omega) (by decide) (by decide), mulOk (by omega) (by omega) (by decide) (by decide), by decide, mulOk f1.1 (by omega) (by decide) (by decide), by decide, ⟨by decide, by decide +kernel⟩, by omega, ?_⟩
      exact .now .refl (fin v _ f3.1 f3.2)
    · have f3 := fmod_lt v h1
      refine ⟨by omega, ⟨h1, ?_⟩, .now .refl (fin _ _ f3.1 f3.2)⟩
      exact Nat.lt_of_lt_of_le (PySem.Flt.log2_lt_of (k := 20) (by decide) (by omega)) (by decide)
theorem w_pool {k : Nat} {ns : List Int} {G : Gp} {Q : VK2} (hl : ns.length ≤ 63) (q : ∀ (p s : Addr) (G' : Gp), PoolOk G' p s 0 → sub G G' → G p = none → G s = none → Q (.ref p) G') : WF T (k + 1) i__law_pool [.scr ns] G Q := by
  refine run rfl ?_
  show b__law_pool (WF T k) _ [some (.scr ns), none, none] G
  unfold b__law_pool
  refine seq_i ?_
  simp only [dVar, dC, dTup, dCons, dNil, dMat, dOp, dTest, dAnd, dOr, dNot, dAndV, dOrV, dNotV, dIf, dChain, asB, slot, wipe2, dSeq, dNext, dSet, dRet, dRetN, dDrop, dIfS, dBreak, dCont, dNever, dgName, dgNil, dgCons, dgTup, dAsg, dPar, dAug, dCall, dMeth, tyG, dIsi, isB, dLenQ, dTupQ, dAny, dAll, dMaxL, dLc, dDc, dMatD, dNil0, dYes, pdCopyG, plKeysG, dAugS, sSet, sPut, dSorSetT, dLenSet, oNo, oYes, dSlL, dSlT, dRepL, dIxL, dTpl, fE, qE, dLRng, dRevT, dNeg, iE, iL, iR1, iR2, iK, iEn, dFor, dLock, oAdd, oSub, oMul, oDiv, oMod, oLt, oLe, oGt, oGe, oEq, oNe, oIn, oNotIn, oIx, oIs, oIsNot, oI, SD.isNon, inB, ixB, ixC, eqB_int, eqB_bl, eqB_str, at_nat, atI_0, atI_1, atI_2, atI_3, atI_4, ixN_0, ixN_1, ixN_2, ixN_3, ixN_4, KeyC, lenB, SD.rLen, rInt, rMax2, mAppend, mExtend, mPop, mIndex, mIndexT, mUpdate, intsD, intsOf, bools, List.set_cons_zero, List.set_cons_succ, List.length_cons, List.length_nil, Bool.not_true, Bool.not_false, if_true, if_false, Bool.false_eq_true, true_and, and_true, Option.bind_some, List.getElem?_cons_succ, List.getElem?_cons_zero, decide_eq_true_eq, Bool.not_eq_true, gput_same, gput_gput, Option.map_some, ↓reduceIte, ite_true, String.reduceBEq, String.reduceEq, decide_true, decide_false, beq_self_eq_true]
  refine for_inv (ds := cutD (ns.map D.int) none (some 63)) (fun pre δ G' => G' = G ∧ ∃ (m : Int) (x : Option D), δ = [some (.scr ns), some (.int m), x] ∧ 0 ≤ m ∧ m < 1000003) ?_ ?_ _ [] _ _ rfl ⟨rfl, 7, none, rfl, by decide, by decide⟩
  · rintro pre x post δ G' e ⟨rfl, m, y, rfl, h1, h2⟩
    refine ⟨trivial, fun nx hx => ?_⟩
    have : x ∈ ns.map D.int := by
      have h : x ∈ cutD (ns.map D.int) none (some 63) := by rw [e]; simp
      exact List.mem_of_mem_drop (List.mem_of_mem_take h)
    obtain ⟨c, _, rfl⟩ := List.mem_map.mp this
    simp only [dVar, dC, dTup, dCons, dNil, dMat, dOp, dTest, dAnd, dOr, dNot, dAndV, dOrV, dNotV, dIf, dChain, asB, slot, wipe2, dSeq, dNext, dSet, dRet, dRetN, dDrop, dIfS, dBreak, dCont, dNever, dgName, dgNil, dgCons, dgTup, dAsg, dPar, dAug, dCall, dMeth, tyG, dIsi, isB, dLenQ, dTupQ, dAny, dAll, dMaxL, dLc, dDc, dMatD, dNil0, dYes, pdCopyG, plKeysG, dAugS, sSet, sPut, dSorSetT, dLenSet, oNo, oYes, dSlL, dSlT, dRepL, dIxL, dTpl, fE, qE, dLRng, dRevT, dNeg, iE, iL, iR1, iR2, iK, iEn, dFor, dLock, oAdd, oSub, oMul, oDiv, oMod, oLt, oLe, oGt, oGe, oEq, oNe, oIn, oNotIn, oIx, oIs, oIsNot, oI, SD.isNon, inB, ixB, ixC, eqB_int, eqB_bl, eqB_str, at_nat, atI_0, atI_1, atI_2, atI_3, atI_4, ixN_0, ixN_1, ixN_2, ixN_3, ixN_4, KeyC, lenB, SD.rLen, rInt, rMax2, mAppend, mExtend, mPop, mIndex, mIndexT, mUpdate, intsD, intsOf, bools, List.set_cons_zero, List.set_cons_succ, List.length_cons, List.length_nil, Bool.not_true, Bool.not_false, if_true, if_false, Bool.false_eq_true, true_and, and_true, Option.bind_some, List.getElem?_cons_succ, List.getElem?_cons_zero, decide_eq_true_eq, Bool.not_eq_true, gput_same, gput_gput, Option.map_some, ↓reduceIte, ite_true, String.reduceBEq, String.reduceEq, decide_true, decide_false, beq_self_eq_true]
    have f := fmod_lt (m * 31 + c) (b := 1000003) (by decide)
    exact ⟨mulOk h1 (by omega) (by decide) (by decide), by decide, hx _ _ ⟨rfl, _, _, rfl, f.1, f.2⟩⟩
  · rintro δ G' ⟨rfl, m, y, rfl, h1, h2⟩
    simp only [dVar, dC, dTup, dCons, dNil, dMat, dOp, dTest, dAnd, dOr, dNot, dAndV, dOrV, dNotV, dIf, dChain, asB, slot, wipe2, dSeq, dNext, dSet, dRet, dRetN, dDrop, dIfS, dBreak, dCont, dNever, dgName, dgNil, dgCons, dgTup, dAsg, dPar, dAug, dCall, dMeth, tyG, dIsi, isB, dLenQ, dTupQ, dAny, dAll, dMaxL, dLc, dDc, dMatD, dNil0, dYes, pdCopyG, plKeysG, dAugS, sSet, sPut, dSorSetT, dLenSet, oNo, oYes, dSlL, dSlT, dRepL, dIxL, dTpl, fE, qE, dLRng, dRevT, dNeg, iE, iL, iR1, iR2, iK, iEn, dFor, dLock, oAdd, oSub, oMul, oDiv, oMod, oLt, oLe, oGt, oGe, oEq, oNe, oIn, oNotIn, oIx, oIs, oIsNot, oI, SD.isNon, inB, ixB, ixC, eqB_int, eqB_bl, eqB_str, at_nat, atI_0, atI_1, atI_2, atI_3, atI_4, ixN_0, ixN_1, ixN_2, ixN_3, ixN_4, KeyC, lenB, SD.rLen, rInt, rMax2, mAppend, mExtend, mPop, mIndex, mIndexT, mUpdate, intsD, intsOf, bools, List.set_cons_zero, List.set_cons_succ, List.length_cons, List.length_nil, Bool.not_true, Bool.not_false, if_true, if_false, Bool.false_eq_true, true_and, and_true, Option.bind_some, List.getElem?_cons_succ, List.getElem?_cons_zero, decide_eq_true_eq, Bool.not_eq_true, gput_same, gput_gput, Option.map_some, ↓reduceIte, ite_true, String.reduceBEq, String.reduceEq, decide_true, decide_false, beq_self_eq_true]
    intro s hs p hp
    have hps : s ≠ p := fun e => by rw [e, gput_same] at hp; cases hp
    have hp' : G' p = none := by rw [gput_ne hps.symm] at hp; exact hp
    refine .now .refl (q p s _ ⟨false, ns, 0, 0, 0, m, gput_same, by rw [gput_ne hps, gput_same], hps, by decide, by decide, by decide, h1, h2⟩ ((sub.refl.put hs).put hp) hp' hs)
end K43

set_option Elab.async false
set_option linter.all false
set_option maxRecDepth 100000
set_option maxHeartbeats 4000000
namespace K43
open PySem PySem.Spec PyProof.Rows L2 SD
/-! ## games as data -/
abbrev Spot := Nat × Nat × List Nat
def intsD' (es : List Nat) : List D := es.map fun (e : Nat) => D.int e
def spotD (s : Spot) : D := .tup [.int s.1, .int s.2.1, .tup (intsD' s.2.2)]
def gameD (gm : List Spot) : D := .tup (gm.map spotD)
def gmOf (gm : List Spot) : Gm := ⟨fun k => (gm.getD k (0, 0, [])).1, fun k => (gm.getD k (0, 0, [])).2.1, fun k => (gm.getD k (0, 0, [])).2.2⟩
structure GmOk (gm : List Spot) : Prop where
  most : gm.length ≤ 2000
  two : ∀ (k : Nat) (s : Spot), gm[k]? = some s → s.1 < 2
  in_ : ∀ (k : Nat) (s : Spot), gm[k]? = some s → ∀ e ∈ s.2.2, e < gm.length
  few : ∀ (k : Nat) (s : Spot), gm[k]? = some s → s.2.2.length < 64
  some_ : ∀ (k : Nat) (s : Spot), gm[k]? = some s → s.2.2 ≠ []
theorem gm_at {gm : List Spot} {k : Nat} (h : k < gm.length) : ∃ s, gm[k]? = some s ∧ (gmOf gm).own k = s.1 ∧ (gmOf gm).lv k = s.2.1 ∧ (gmOf gm).E k = s.2.2 := by
  refine ⟨gm[k], List.getElem?_eq_getElem h, ?_, ?_, ?_⟩ <;> simp [gmOf, List.getD_eq_getElem?_getD, h]
theorem ints_eq (es : List Nat) : intsD' es = (es.map fun (e : Nat) => (e : Int)).map D.int := by simp [intsD', Function.comp_def]
theorem intsD_ok (es : List Nat) : intsD (intsD' es) = some (es.map fun (e : Nat) => (e : Int)) := by rw [ints_eq]; exact intsD_map _
theorem sdd_nat (es : List Nat) : ∃ fs : List Nat, (sdd (es.map fun (e : Nat) => (e : Int))).map D.int = intsD' fs ∧ fs.Nodup ∧ (∀ x, x ∈ fs ↔ x ∈ es) ∧ fs.length ≤ es.length := by
  have h : ∀ l : List Int, (∀ x ∈ l, 0 ≤ x) → l.map D.int = intsD' (l.map Int.toNat) := by
    intro l
    induction l with
    | nil => intro _; rfl
    | cons x r ih =>
      intro h
      have hx := h x List.mem_cons_self
      rw [List.map_cons, ih fun y hy => h y (List.mem_cons_of_mem _ hy)]
      show _ = D.int ((x.toNat : Nat) : Int) :: _
      rw [show ((x.toNat : Nat) : Int) = x by omega]
      rfl
  have pos : ∀ x ∈ sdd (es.map fun (e : Nat) => (e : Int)), 0 ≤ x := fun x hx => by
    obtain ⟨y, _, rfl⟩ := List.mem_map.mp (sdd_mem.mp hx); omega
  refine ⟨(sdd (es.map fun (e : Nat) => (e : Int))).map Int.toNat, h _ pos, ?_, fun x => ?_, ?_⟩
  · refine List.pairwise_map.mpr ((sdd_sorted _).imp_of_mem fun {a b} ha hb hab => ?_)
    have := pos a ha; have := pos b hb; omega
  · constructor
    · intro hx
      obtain ⟨y, hy, rfl⟩ := List.mem_map.mp hx
      obtain ⟨z, hz, rfl⟩ := List.mem_map.mp (sdd_mem.mp hy)
      simpa using hz
    · intro hx
      exact List.mem_map.mpr ⟨(x : Int), sdd_mem.mpr (List.mem_map.mpr ⟨x, hx, rfl⟩), by simp⟩
  · rw [List.length_map]
    have := sdd_length_le (es.map fun (e : Nat) => (e : Int))
    simpa using this
/-! ## before_spots -/
/-- at b a list of lists: who leads to g -/
structure HeapB (G : Gp) (b : Addr) (rs : List Addr) (L : Nat → List Nat) : Prop where
  top : G b = some (.lst false (rs.map D.ref))
  at_ : ∀ g a, rs[g]? = some a → G a = some (.lst false (intsD' (L g)))
def BeforeOk (G : Gp) (b : Addr) (gm : List Spot) : Prop := ∃ rs L, HeapB G b rs L ∧ rs.length = gm.length ∧ ∀ g, g < gm.length → (L g).Nodup ∧ ∀ k, k ∈ L g ↔ k < gm.length ∧ g ∈ (gmOf gm).E k
theorem BeforeOk.sub {G G' : Gp} {b : Addr} {gm : List Spot} (h : BeforeOk G b gm) (s : SD.sub G G') : BeforeOk G' b gm :=
  let ⟨rs, L, hb, h1, h2⟩ := h; ⟨rs, L, ⟨s _ _ hb.top, fun g a e => s _ _ (hb.at_ g a e)⟩, h1, h2⟩
theorem BeforeOk.lst {G G' : Gp} {b : Addr} {gm : List Spot} (h : BeforeOk G b gm) (s : ∀ a l xs, G a = some (.lst l xs) → G' a = some (.lst l xs)) : BeforeOk G' b gm :=
  let ⟨rs, L, hb, h1, h2⟩ := h; ⟨rs, L, ⟨s _ _ _ hb.top, fun g a e => s _ _ _ (hb.at_ g a e)⟩, h1, h2⟩
theorem HeapB.put {G : Gp} {b : Addr} {rs : List Addr} {L : Nat → List Nat} (h : HeapB G b rs L) (nd : rs.Nodup) (hb : b ∉ rs) {g : Nat} {a : Addr} (e : rs[g]? = some a) (l : List Nat) : HeapB (gput G a (.lst false (intsD' l))) b rs fun j => if j = g then l else L j where
  top := by rw [gput_ne fun z => hb (by rw [z]; exact List.mem_of_getElem? e)]; exact h.top
  at_ := fun j c ej => by
    by_cases hj : j = g
    · subst hj
      rw [e] at ej; cases ej
      rw [gput_same, if_pos rfl]
    · have hne : c ≠ a := fun z => by
        subst z
        obtain ⟨h1, e1⟩ := List.getElem?_eq_some_iff.mp e
        obtain ⟨h2, e2⟩ := List.getElem?_eq_some_iff.mp ej
        exact hj (((List.getElem_inj nd).mp (e2.trans e1.symm)))
      rw [gput_ne hne, if_neg hj]; exact h.at_ j c ej
theorem w_before {k : Nat} {gm : List Spot} (ok : GmOk gm) {G : Gp} {Q : VK2} (q : ∀ b G', BeforeOk G' b gm → sub G G' → G b = none → Q (.ref b) G') : WF T (k + 1) i_before_spots [gameD gm] G Q := by
  refine run rfl ?_
  show b_before_spots (WF T k) _ [some (gameD gm), none, none, none, none] G
  unfold b_before_spots
  refine seq_i ?_
  unfold gameD
  simp only [dVar, dC, dTup, dCons, dNil, dMat, dOp, dTest, dAnd, dOr, dNot, dAndV, dOrV, dNotV, dIf, dChain, asB, slot, wipe2, dSeq, dNext, dSet, dRet, dRetN, dDrop, dIfS, dBreak, dCont, dNever, dgName, dgNil, dgCons, dgTup, dAsg, dPar, dAug, dCall, dMeth, tyG, dIsi, isB, dLenQ, dTupQ, dAny, dAll, dMaxL, dLc, dDc, dMatD, dNil0, dYes, pdCopyG, plKeysG, dAugS, sSet, sPut, dSorSetT, dLenSet, oNo, oYes, dSlL, dSlT, dRepL, dIxL, dTpl, fE, qE, dLRng, dRevT, dNeg, iE, iL, iR1, iR2, iK, iEn, dFor, dLock, oAdd, oSub, oMul, oDiv, oMod, oLt, oLe, oGt, oGe, oEq, oNe, oIn, oNotIn, oIx, oIs, oIsNot, oI, SD.isNon, inB, ixB, ixC, eqB_int, eqB_bl, eqB_str, at_nat, atI_0, atI_1, atI_2, atI_3, atI_4, ixN_0, ixN_1, ixN_2, ixN_3, ixN_4, KeyC, lenB, SD.rLen, rInt, rMax2, mAppend, mExtend, mPop, mIndex, mIndexT, mUpdate, intsD, intsOf, bools, List.set_cons_zero, List.set_cons_succ, List.length_cons, List.length_nil, Bool.not_true, Bool.not_false, if_true, if_false, Bool.false_eq_true, true_and, and_true, Option.bind_some, List.getElem?_cons_succ, List.getElem?_cons_zero, decide_eq_true_eq, Bool.not_eq_true, gput_same, gput_gput, Option.map_some, ↓reduceIte, ite_true, String.reduceBEq, String.reduceEq, decide_true, decide_false, beq_self_eq_true]
  have hsl : sizeLine = 16777216 := sizeLine_eq
  have most := ok.most
  refine ⟨by rw [List.length_map]; omega, ?_⟩
  refine lc_inv (ds := gm.map spotD) (fun pre acc G' => ∃ rs : List Addr, acc = rs.map D.ref ∧ rs.length = pre.length ∧ rs.Nodup ∧ (∀ a ∈ rs, G' a = some (.lst false []) ∧ G a = none) ∧ sub G G') ?_ ?_ _ [] [] G rfl ⟨[], rfl, rfl, List.nodup_nil, fun _ h => by simp at h, .refl⟩
  · rintro pre x post acc G1 e ⟨rs, rfl, hl, hn, ha, hs⟩
    refine ⟨trivial, fun R1 R0 h1 h0 => ?_⟩
    simp only [dVar, dC, dTup, dCons, dNil, dMat, dOp, dTest, dAnd, dOr, dNot, dAndV, dOrV, dNotV, dIf, dChain, asB, slot, wipe2, dSeq, dNext, dSet, dRet, dRetN, dDrop, dIfS, dBreak, dCont, dNever, dgName, dgNil, dgCons, dgTup, dAsg, dPar, dAug, dCall, dMeth, tyG, dIsi, isB, dLenQ, dTupQ, dAny, dAll, dMaxL, dLc, dDc, dMatD, dNil0, dYes, pdCopyG, plKeysG, dAugS, sSet, sPut, dSorSetT, dLenSet, oNo, oYes, dSlL, dSlT, dRepL, dIxL, dTpl, fE, qE, dLRng, dRevT, dNeg, iE, iL, iR1, iR2, iK, iEn, dFor, dLock, oAdd, oSub, oMul, oDiv, oMod, oLt, oLe, oGt, oGe, oEq, oNe, oIn, oNotIn, oIx, oIs, oIsNot, oI, SD.isNon, inB, ixB, ixC, eqB_int, eqB_bl, eqB_str, at_nat, atI_0, atI_1, atI_2, atI_3, atI_4, ixN_0, ixN_1, ixN_2, ixN_3, ixN_4, KeyC, lenB, SD.rLen, rInt, rMax2, mAppend, mExtend, mPop, mIndex, mIndexT, mUpdate, intsD, intsOf, bools, List.set_cons_zero, List.set_cons_succ, List.length_cons, List.length_nil, Bool.not_true, Bool.not_false, if_true, if_false, Bool.false_eq_true, true_and, and_true, Option.bind_some, List.getElem?_cons_succ, List.getElem?_cons_zero, decide_eq_true_eq, Bool.not_eq_true, gput_same, gput_gput, Option.map_some, ↓reduceIte, ite_true, String.reduceBEq, String.reduceEq, decide_true, decide_false, beq_self_eq_true]
    intro p hp
    refine h1 _ _ ⟨rs ++ [p], by simp, by simp [hl], ?_, fun a h => ?_, hs.put hp⟩
    · refine List.nodup_append.mpr ⟨hn, by simp, fun a h b hb => ?_⟩
      simp at hb
      rintro rfl
      subst hb
      rw [(ha _ h).1] at hp; cases hp
    · rcases List.mem_append.mp h with h | h
      · have hne : a ≠ p := fun z => by rw [← z, (ha _ h).1] at hp; cases hp
        rw [gput_ne hne]; exact ha a h
      · simp at h; subst h; exact ⟨gput_same, hs.none hp⟩
  · rintro acc G1 ⟨rs, rfl, hl, hn, ha, hs⟩
    refine ⟨trivial, fun p hp => ⟨by rw [List.length_map]; omega, ?_⟩⟩
    have hlen : rs.length = gm.length := by rw [hl, List.length_map]
    have hpr : p ∉ rs := fun h => by rw [(ha _ h).1] at hp; cases hp
    have H0 : HeapB (gput G1 p (.lst false (rs.map D.ref))) p rs fun _ => [] := ⟨gput_same, fun g a e => by
      have hm := List.mem_of_getElem? e
      rw [gput_ne (show a ≠ p from fun z => hpr (z ▸ hm))]; exact (ha a hm).1⟩
    have hn1 : ((gm.map spotD).length : Int).toNat = gm.length := by rw [List.length_map]; omega
    rw [hn1]
    refine for_inv (ds := rngD 0 gm.length) (fun pre δ G' => ∃ x y z, δ = [some (.tup (gm.map spotD)), some (.ref p), x, y, z] ∧ HeapB G' p rs (fun g => (List.range pre.length).filter fun k => decide (g ∈ (gmOf gm).E k)) ∧ sub G G') ?_ ?_ _ [] _ _ rfl
      ⟨_, _, _, rfl, H0, hs.put hp⟩
    · rintro pre x post δ G2 e ⟨x1, y1, z1, rfl, HB, hs2⟩
      refine ⟨trivial, fun nx hx => ?_⟩
      obtain ⟨hi, rfl⟩ := rngD_mem e
      obtain ⟨sp, hsp, _, _, hE⟩ := gm_at hi
      rw [Int.zero_add]
      simp only [dVar, dC, dTup, dCons, dNil, dMat, dOp, dTest, dAnd, dOr, dNot, dAndV, dOrV, dNotV, dIf, dChain, asB, slot, wipe2, dSeq, dNext, dSet, dRet, dRetN, dDrop, dIfS, dBreak, dCont, dNever, dgName, dgNil, dgCons, dgTup, dAsg, dPar, dAug, dCall, dMeth, tyG, dIsi, isB, dLenQ, dTupQ, dAny, dAll, dMaxL, dLc, dDc, dMatD, dNil0, dYes, pdCopyG, plKeysG, dAugS, sSet, sPut, dSorSetT, dLenSet, oNo, oYes, dSlL, dSlT, dRepL, dIxL, dTpl, fE, qE, dLRng, dRevT, dNeg, iE, iL, iR1, iR2, iK, iEn, dFor, dLock, oAdd, oSub, oMul, oDiv, oMod, oLt, oLe, oGt, oGe, oEq, oNe, oIn, oNotIn, oIx, oIs, oIsNot, oI, SD.isNon, inB, ixB, ixC, eqB_int, eqB_bl, eqB_str, at_nat, atI_0, atI_1, atI_2, atI_3, atI_4, ixN_0, ixN_1, ixN_2, ixN_3, ixN_4, KeyC, lenB, SD.rLen, rInt, rMax2, mAppend, mExtend, mPop, mIndex, mIndexT, mUpdate, intsD, intsOf, bools, List.set_cons_zero, List.set_cons_succ, List.length_cons, List.length_nil, Bool.not_true, Bool.not_false, if_true, if_false, Bool.false_eq_true, true_and, and_true, Option.bind_some, List.getElem?_cons_succ, List.getElem?_cons_zero, decide_eq_true_eq, Bool.not_eq_true, gput_same, gput_gput, Option.map_some, ↓reduceIte, ite_true, String.reduceBEq, String.reduceEq, decide_true, decide_false, beq_self_eq_true, List.getElem?_map, hsp, spotD]
      rw [intsD_ok]
      simp only [dVar, dC, dTup, dCons, dNil, dMat, dOp, dTest, dAnd, dOr, dNot, dAndV, dOrV, dNotV, dIf, dChain, asB, slot, wipe2, dSeq, dNext, dSet, dRet, dRetN, dDrop, dIfS, dBreak, dCont, dNever, dgName, dgNil, dgCons, dgTup, dAsg, dPar, dAug, dCall, dMeth, tyG, dIsi, isB, dLenQ, dTupQ, dAny, dAll, dMaxL, dLc, dDc, dMatD, dNil0, dYes, pdCopyG, plKeysG, dAugS, sSet, sPut, dSorSetT, dLenSet, oNo, oYes, dSlL, dSlT, dRepL, dIxL, dTpl, fE, qE, dLRng, dRevT, dNeg, iE, iL, iR1, iR2, iK, iEn, dFor, dLock, oAdd, oSub, oMul, oDiv, oMod, oLt, oLe, oGt, oGe, oEq, oNe, oIn, oNotIn, oIx, oIs, oIsNot, oI, SD.isNon, inB, ixB, ixC, eqB_int, eqB_bl, eqB_str, at_nat, atI_0, atI_1, atI_2, atI_3, atI_4, ixN_0, ixN_1, ixN_2, ixN_3, ixN_4, KeyC, lenB, SD.rLen, rInt, rMax2, mAppend, mExtend, mPop, mIndex, mIndexT, mUpdate, intsD, intsOf, bools, List.set_cons_zero, List.set_cons_succ, List.length_cons, List.length_nil, Bool.not_true, Bool.not_false, if_true, if_false, Bool.false_eq_true, true_and, and_true, Option.bind_some, List.getElem?_cons_succ, List.getElem?_cons_zero, decide_eq_true_eq, Bool.not_eq_true, gput_same, gput_gput, Option.map_some, ↓reduceIte, ite_true, String.reduceBEq, String.reduceEq, decide_true, decide_false, beq_self_eq_true]
      obtain ⟨fs, hfs, nfs, mfs, lfs⟩ := sdd_nat sp.2.2
      rw [hfs]
      refine ⟨by rw [List.length_map]; exact ok.few _ _ hsp, ?_⟩
      refine for_inv (ds := intsD' fs) (fun pre2 δ G' => ∃ y z, δ = [some (.tup (gm.map spotD)), some (.ref p), some (.int pre.length), y, z] ∧
        HeapB G' p rs (fun g => (List.range pre.length).filter (fun k => decide (g ∈ (gmOf gm).E k)) ++ if D.int (g : Nat) ∈ pre2 then [pre.length] else []) ∧ sub G G') ?_ ?_ _ [] _ _ rfl ⟨_, _, rfl, by simpa using HB, hs2⟩
      · rintro pre2 x2 post2 δ G3 e2 ⟨y2, z2, rfl, HB2, hs3⟩
        refine ⟨trivial, fun nx2 hx2 => ?_⟩
        have hm2 : x2 ∈ intsD' fs := by rw [e2]; simp
        obtain ⟨g, hg, rfl⟩ := List.mem_map.mp hm2
        have hgE : g ∈ sp.2.2 := (mfs g).mp hg
        have hgn : g < gm.length := ok.in_ _ _ hsp g hgE
        obtain ⟨a, ea⟩ : ∃ a, rs[g]? = some a := ⟨rs[g], List.getElem?_eq_getElem (by omega)⟩
        have hnot : D.int (g : Nat) ∉ pre2 := fun h => by
          have hnd : (intsD' fs).Nodup := List.pairwise_map.mpr (nfs.imp fun h e => h (intN_inj e))
          rw [e2] at hnd
          have := List.nodup_append.mp hnd
          exact this.2.2 _ h _ List.mem_cons_self rfl
        have hat := HB2.at_ g a ea
        rw [if_neg hnot, List.append_nil] at hat
        simp only [dVar, dC, dTup, dCons, dNil, dMat, dOp, dTest, dAnd, dOr, dNot, dAndV, dOrV, dNotV, dIf, dChain, asB, slot, wipe2, dSeq, dNext, dSet, dRet, dRetN, dDrop, dIfS, dBreak, dCont, dNever, dgName, dgNil, dgCons, dgTup, dAsg, dPar, dAug, dCall, dMeth, tyG, dIsi, isB, dLenQ, dTupQ, dAny, dAll, dMaxL, dLc, dDc, dMatD, dNil0, dYes, pdCopyG, plKeysG, dAugS, sSet, sPut, dSorSetT, dLenSet, oNo, oYes, dSlL, dSlT, dRepL, dIxL, dTpl, fE, qE, dLRng, dRevT, dNeg, iE, iL, iR1, iR2, iK, iEn, dFor, dLock, oAdd, oSub, oMul, oDiv, oMod, oLt, oLe, oGt, oGe, oEq, oNe, oIn, oNotIn, oIx, oIs, oIsNot, oI, SD.isNon, inB, ixB, ixC, eqB_int, eqB_bl, eqB_str, at_nat, atI_0, atI_1, atI_2, atI_3, atI_4, ixN_0, ixN_1, ixN_2, ixN_3, ixN_4, KeyC, lenB, SD.rLen, rInt, rMax2, mAppend, mExtend, mPop, mIndex, mIndexT, mUpdate, intsD, intsOf, bools, List.set_cons_zero, List.set_cons_succ, List.length_cons, List.length_nil, Bool.not_true, Bool.not_false, if_true, if_false, Bool.false_eq_true, true_and, and_true, Option.bind_some, List.getElem?_cons_succ, List.getElem?_cons_zero, decide_eq_true_eq, Bool.not_eq_true, gput_same, gput_gput, Option.map_some, ↓reduceIte, ite_true, String.reduceBEq, String.reduceEq, decide_true, decide_false, beq_self_eq_true, HB2.top, List.getElem?_map, ea, hat]
        refine ⟨?_, hx2 _ _ ⟨_, _, rfl, ?_, hs3.upd (ha a (List.mem_of_getElem? ea)).2⟩⟩
        · have : (intsD' ((List.range pre.length).filter fun k => decide (g ∈ (gmOf gm).E k))).length ≤ pre.length := by
            unfold intsD'
            rw [List.length_map]
            exact Nat.le_trans (List.length_filter_le _ _) (by simp)
          omega
        · have := HB2.put hn hpr ea ((List.range pre.length).filter (fun k => decide (g ∈ (gmOf gm).E k)) ++ [pre.length])
          have e3 : intsD' ((List.range pre.length).filter (fun k => decide (g ∈ (gmOf gm).E k)) ++ [pre.length]) = intsD' ((List.range pre.length).filter fun k => decide (g ∈ (gmOf gm).E k)) ++ [D.int pre.length] := by simp [intsD']
          rw [e3] at this
          refine ⟨this.top, fun j c ej => ?_⟩
          rw [this.at_ j c ej]
          by_cases hj : j = g
          · subst hj; simp
          · have : D.int (j : Nat) ≠ D.int (g : Nat) := fun e => hj (intN_inj e)
            simp [hj, this]
      · rintro δ G3 ⟨y2, z2, rfl, HB2, hs3⟩
        refine ⟨trivial, hx _ _ ⟨_, _, _, rfl, ⟨HB2.top, fun g a e => ?_⟩, hs3⟩⟩
        rw [HB2.at_ g a e, List.length_append]
        show _ = some (MO.lst false (intsD' ((List.range (pre.length + 1)).filter _)))
        rw [List.range_succ, List.filter_append, List.filter_cons, List.filter_nil, hE]
        have : (D.int (g : Nat) ∈ intsD' fs) ↔ g ∈ sp.2.2 := by
          rw [← mfs g]
          unfold intsD'
          constructor
          · intro h; obtain ⟨z, hz, ez⟩ := List.mem_map.mp h; rw [← intN_inj ez]; exact hz
          · intro h; exact List.mem_map.mpr ⟨g, h, rfl⟩
        by_cases hg : g ∈ sp.2.2
        · rw [if_pos (this.mpr hg), if_pos (by simpa using hg)]
        · rw [if_neg (fun h => hg (this.mp h)), if_neg (by simpa using hg)]
    · rintro δ G2 ⟨x1, y1, z1, rfl, HB, hs2⟩
      refine ⟨trivial, ?_⟩
      simp only [dVar, dC, dTup, dCons, dNil, dMat, dOp, dTest, dAnd, dOr, dNot, dAndV, dOrV, dNotV, dIf, dChain, asB, slot, wipe2, dSeq, dNext, dSet, dRet, dRetN, dDrop, dIfS, dBreak, dCont, dNever, dgName, dgNil, dgCons, dgTup, dAsg, dPar, dAug, dCall, dMeth, tyG, dIsi, isB, dLenQ, dTupQ, dAny, dAll, dMaxL, dLc, dDc, dMatD, dNil0, dYes, pdCopyG, plKeysG, dAugS, sSet, sPut, dSorSetT, dLenSet, oNo, oYes, dSlL, dSlT, dRepL, dIxL, dTpl, fE, qE, dLRng, dRevT, dNeg, iE, iL, iR1, iR2, iK, iEn, dFor, dLock, oAdd, oSub, oMul, oDiv, oMod, oLt, oLe, oGt, oGe, oEq, oNe, oIn, oNotIn, oIx, oIs, oIsNot, oI, SD.isNon, inB, ixB, ixC, eqB_int, eqB_bl, eqB_str, at_nat, atI_0, atI_1, atI_2, atI_3, atI_4, ixN_0, ixN_1, ixN_2, ixN_3, ixN_4, KeyC, lenB, SD.rLen, rInt, rMax2, mAppend, mExtend, mPop, mIndex, mIndexT, mUpdate, intsD, intsOf, bools, List.set_cons_zero, List.set_cons_succ, List.length_cons, List.length_nil, Bool.not_true, Bool.not_false, if_true, if_false, Bool.false_eq_true, true_and, and_true, Option.bind_some, List.getElem?_cons_succ, List.getElem?_cons_zero, decide_eq_true_eq, Bool.not_eq_true, gput_same, gput_gput, Option.map_some, ↓reduceIte, ite_true, String.reduceBEq, String.reduceEq, decide_true, decide_false, beq_self_eq_true]
      refine .now .refl (q p G2 ⟨rs, _, HB, hlen, fun g hg => ⟨List.Pairwise.filter _ List.nodup_range, fun k => ?_⟩⟩ hs2 (hs.none hp))
      have : (rngD 0 gm.length).length = gm.length := by simp [rngD]
      rw [this]
      simp
end K43

set_option Elab.async false
set_option linter.all false
set_option maxRecDepth 100000
set_option maxHeartbeats 4000000
namespace K43
open PySem PySem.Spec PyProof.Rows L2 SD
theorem game_ix {gm : List Spot} {k : Nat} {s : Spot} (h : gm[k]? = some s) : atI (gm.map spotD) (k : Int) = some (spotD s) := by rw [at_nat, List.getElem?_map, h]; rfl
theorem dset_in {n : Nat} {kvs : List (D × D)} {f : Nat → Option D} (d : DictN n kvs f) (k : Nat) : (dget kvs (.int k)).isSome = (f k).isSome := by rw [d.at_]
/-- the heap amid the drawing -/
structure DrH (G : Gp) (f w l m : Addr) (G' : Gp) (kF : List (D × D)) (W : List D) (kL kM : List (D × D)) : Prop where
  f_ : G' f = some (.dic false false kF)
  w_ : G' w = some (.lst false W)
  l_ : G' l = some (.dic false false kL)
  m_ : G' m = some (.dic false false kM)
  o_ : ∀ a, a ≠ f → a ≠ w → a ≠ l → a ≠ m → G' a = G a
theorem pop_at (w' : List Nat) (g : Nat) : (intsD' (w' ++ [g]))[(intsD' (w' ++ [g])).length - 1]? = some (.int g) ∧ (intsD' (w' ++ [g])).dropLast = intsD' w' := by
  have e : intsD' (w' ++ [g]) = intsD' w' ++ [D.int g] := by simp [intsD']
  rw [e]
  simp
theorem w_drawn {k : Nat} {gm : List Spot} (ok : GmOk gm) {G : Gp} {Q : VK2} {b s gl m : Addr} {S P : Nat → Prop} {kS kG : List (D × D)} (hb : BeforeOk G b gm) (hs : G s = some (.dic false false kS)) (dS : SetN gm.length kS S) (hg : G gl = some (.dic false false kG)) (dG : SetN gm.length kG P)
    (hPS : ∀ k, P k → S k) (hm : G m = some (.dic false false [])) (hsm : s ≠ m) (hgm : gl ≠ m) (tot : Total (gmOf gm) S) (p : Nat)
    (q : ∀ (f : Addr) (kF kM : List (D × D)) (Fs : Nat → Prop) (fm : Nat → Option D) (mv : Nat → Nat) (G' : Gp), Attr (gmOf gm) S p P Fs mv → SetN gm.length kF Fs → DictN gm.length kM fm → (∀ j, Fs j ∧ ¬ P j ∧ (gmOf gm).own j = p → fm j = some (.int (mv j))) →
      (∀ j, ¬ (Fs j ∧ ¬ P j ∧ (gmOf gm).own j = p) → fm j = none) → G' f = some (.dic false false kF) → G' m = some (.dic false false kM) → (∀ a, a ≠ f → a ≠ m → G' a = G a) → G f = none → Q (.ref f) G') :
    WF T (k + 1) i_drawn [gameD gm, .ref b, .ref s, .int p, .ref gl, .ref m] G Q := by
  refine run rfl ?_
  show b_drawn (WF T k) _ [some (gameD gm), some (.ref b), some (.ref s), some (.int p), some (.ref gl), some (.ref m), none, none, none, none, none] G
  unfold b_drawn
  obtain ⟨fS, dS, eS⟩ := dS
  obtain ⟨fG, dG, eG⟩ := dG
  obtain ⟨ks, hks, nks, mks, lks⟩ := dS.keys
  obtain ⟨gs, hgs, ngs, mgs, lgs⟩ := dG.keys
  have hsl : sizeLine = 16777216 := sizeLine_eq
  have most := ok.most
  refine seq_i ?_
  simp only [dVar, dC, dTup, dCons, dNil, dMat, dOp, dTest, dAnd, dOr, dNot, dAndV, dOrV, dNotV, dIf, dChain, asB, slot, wipe2, dSeq, dNext, dSet, dRet, dRetN, dDrop, dIfS, dBreak, dCont, dNever, dgName, dgNil, dgCons, dgTup, dAsg, dPar, dAug, dCall, dMeth, tyG, dIsi, isB, dLenQ, dTupQ, dAny, dAll, dMaxL, dLc, dDc, dMatD, dNil0, dYes, pdCopyG, plKeysG, dAugS, sSet, sPut, dSorSetT, dLenSet, oNo, oYes, dSlL, dSlT, dRepL, dIxL, dTpl, fE, qE, dLRng, dRevT, dNeg, iE, iL, iR1, iR2, iK, iEn, dFor, dLock, oAdd, oSub, oMul, oDiv, oMod, oLt, oLe, oGt, oGe, oEq, oNe, oIn, oNotIn, oIx, oIs, oIsNot, oI, SD.isNon, inB, ixB, ixC, eqB_int, eqB_bl, eqB_str, at_nat, atI_0, atI_1, atI_2, atI_3, atI_4, ixN_0, ixN_1, ixN_2, ixN_3, ixN_4, KeyC, lenB, SD.rLen, rInt, rMax2, mAppend, mExtend, mPop, mIndex, mIndexT, mUpdate, intsD, intsOf, bools, List.set_cons_zero, List.set_cons_succ, List.length_cons, List.length_nil, Bool.not_true, Bool.not_false, if_true, if_false, Bool.false_eq_true, true_and, and_true, Option.bind_some, List.getElem?_cons_succ, List.getElem?_cons_zero, decide_eq_true_eq, Bool.not_eq_true, gput_same, gput_gput, Option.map_some, ↓reduceIte, ite_true, String.reduceBEq, String.reduceEq, decide_true, decide_false, beq_self_eq_true, hg]
  intro f hf
  have hfg : gl ≠ f := fun e => by rw [← e, hg] at hf; cases hf
  simp only [dVar, dC, dTup, dCons, dNil, dMat, dOp, dTest, dAnd, dOr, dNot, dAndV, dOrV, dNotV, dIf, dChain, asB, slot, wipe2, dSeq, dNext, dSet, dRet, dRetN, dDrop, dIfS, dBreak, dCont, dNever, dgName, dgNil, dgCons, dgTup, dAsg, dPar, dAug, dCall, dMeth, tyG, dIsi, isB, dLenQ, dTupQ, dAny, dAll, dMaxL, dLc, dDc, dMatD, dNil0, dYes, pdCopyG, plKeysG, dAugS, sSet, sPut, dSorSetT, dLenSet, oNo, oYes, dSlL, dSlT, dRepL, dIxL, dTpl, fE, qE, dLRng, dRevT, dNeg, iE, iL, iR1, iR2, iK, iEn, dFor, dLock, oAdd, oSub, oMul, oDiv, oMod, oLt, oLe, oGt, oGe, oEq, oNe, oIn, oNotIn, oIx, oIs, oIsNot, oI, SD.isNon, inB, ixB, ixC, eqB_int, eqB_bl, eqB_str, at_nat, atI_0, atI_1, atI_2, atI_3, atI_4, ixN_0, ixN_1, ixN_2, ixN_3, ixN_4, KeyC, lenB, SD.rLen, rInt, rMax2, mAppend, mExtend, mPop, mIndex, mIndexT, mUpdate, intsD, intsOf, bools, List.set_cons_zero, List.set_cons_succ, List.length_cons, List.length_nil, Bool.not_true, Bool.not_false, if_true, if_false, Bool.false_eq_true, true_and, and_true, Option.bind_some, List.getElem?_cons_succ, List.getElem?_cons_zero, decide_eq_true_eq, Bool.not_eq_true, gput_same, gput_gput, Option.map_some, ↓reduceIte, ite_true, String.reduceBEq, String.reduceEq, decide_true, decide_false, beq_self_eq_true, gput_ne hfg, hg]
  intro w hw
  have hfs : s ≠ f := fun e => by rw [← e, hs] at hf; cases hf
  have hws : s ≠ w := fun e => by rw [← e, gput_ne hfs, hs] at hw; cases hw
  simp only [dVar, dC, dTup, dCons, dNil, dMat, dOp, dTest, dAnd, dOr, dNot, dAndV, dOrV, dNotV, dIf, dChain, asB, slot, wipe2, dSeq, dNext, dSet, dRet, dRetN, dDrop, dIfS, dBreak, dCont, dNever, dgName, dgNil, dgCons, dgTup, dAsg, dPar, dAug, dCall, dMeth, tyG, dIsi, isB, dLenQ, dTupQ, dAny, dAll, dMaxL, dLc, dDc, dMatD, dNil0, dYes, pdCopyG, plKeysG, dAugS, sSet, sPut, dSorSetT, dLenSet, oNo, oYes, dSlL, dSlT, dRepL, dIxL, dTpl, fE, qE, dLRng, dRevT, dNeg, iE, iL, iR1, iR2, iK, iEn, dFor, dLock, oAdd, oSub, oMul, oDiv, oMod, oLt, oLe, oGt, oGe, oEq, oNe, oIn, oNotIn, oIx, oIs, oIsNot, oI, SD.isNon, inB, ixB, ixC, eqB_int, eqB_bl, eqB_str, at_nat, atI_0, atI_1, atI_2, atI_3, atI_4, ixN_0, ixN_1, ixN_2, ixN_3, ixN_4, KeyC, lenB, SD.rLen, rInt, rMax2, mAppend, mExtend, mPop, mIndex, mIndexT, mUpdate, intsD, intsOf, bools, List.set_cons_zero, List.set_cons_succ, List.length_cons, List.length_nil, Bool.not_true, Bool.not_false, if_true, if_false, Bool.false_eq_true, true_and, and_true, Option.bind_some, List.getElem?_cons_succ, List.getElem?_cons_zero, decide_eq_true_eq, Bool.not_eq_true, gput_same, gput_gput, Option.map_some, ↓reduceIte, ite_true, String.reduceBEq, String.reduceEq, decide_true, decide_false, beq_self_eq_true, gput_ne hws, gput_ne hfs, hs]
  refine ⟨by rw [List.length_map]; have := dS.len; omega, ?_⟩
  rw [hks]
  refine dc_comp nks lks (fun _ => true) (fun k => .int (gcnt ((gmOf gm).E k) S fun _ => False)) trivial (fun k hk R1 R0 r1 r0 => ?_) fun kL dL => ?_
  · obtain ⟨sp, hsp, hown, hlv, hE⟩ := gm_at (lks k hk)
    unfold gameD
    simp only [dVar, dC, dTup, dCons, dNil, dMat, dOp, dTest, dAnd, dOr, dNot, dAndV, dOrV, dNotV, dIf, dChain, asB, slot, wipe2, dSeq, dNext, dSet, dRet, dRetN, dDrop, dIfS, dBreak, dCont, dNever, dgName, dgNil, dgCons, dgTup, dAsg, dPar, dAug, dCall, dMeth, tyG, dIsi, isB, dLenQ, dTupQ, dAny, dAll, dMaxL, dLc, dDc, dMatD, dNil0, dYes, pdCopyG, plKeysG, dAugS, sSet, sPut, dSorSetT, dLenSet, oNo, oYes, dSlL, dSlT, dRepL, dIxL, dTpl, fE, qE, dLRng, dRevT, dNeg, iE, iL, iR1, iR2, iK, iEn, dFor, dLock, oAdd, oSub, oMul, oDiv, oMod, oLt, oLe, oGt, oGe, oEq, oNe, oIn, oNotIn, oIx, oIs, oIsNot, oI, SD.isNon, inB, ixB, ixC, eqB_int, eqB_bl, eqB_str, at_nat, atI_0, atI_1, atI_2, atI_3, atI_4, ixN_0, ixN_1, ixN_2, ixN_3, ixN_4, KeyC, lenB, SD.rLen, rInt, rMax2, mAppend, mExtend, mPop, mIndex, mIndexT, mUpdate, intsD, intsOf, bools, List.set_cons_zero, List.set_cons_succ, List.length_cons, List.length_nil, Bool.not_true, Bool.not_false, if_true, if_false, Bool.false_eq_true, true_and, and_true, Option.bind_some, List.getElem?_cons_succ, List.getElem?_cons_zero, decide_eq_true_eq, Bool.not_eq_true, gput_same, gput_gput, Option.map_some, ↓reduceIte, ite_true, String.reduceBEq, String.reduceEq, decide_true, decide_false, beq_self_eq_true, game_ix hsp, spotD]
    have few := ok.few _ _ hsp
    refine ⟨by rw [intsD', List.length_map]; omega, ?_⟩
    refine lc_pure (fun d => if (dget kS d).isSome = true then some d else none) trivial _ [] (fun x hx R1 R0 r => ?_) ?_
    · obtain ⟨e, he, rfl⟩ := List.mem_map.mp hx
      simp only [dVar, dC, dTup, dCons, dNil, dMat, dOp, dTest, dAnd, dOr, dNot, dAndV, dOrV, dNotV, dIf, dChain, asB, slot, wipe2, dSeq, dNext, dSet, dRet, dRetN, dDrop, dIfS, dBreak, dCont, dNever, dgName, dgNil, dgCons, dgTup, dAsg, dPar, dAug, dCall, dMeth, tyG, dIsi, isB, dLenQ, dTupQ, dAny, dAll, dMaxL, dLc, dDc, dMatD, dNil0, dYes, pdCopyG, plKeysG, dAugS, sSet, sPut, dSorSetT, dLenSet, oNo, oYes, dSlL, dSlT, dRepL, dIxL, dTpl, fE, qE, dLRng, dRevT, dNeg, iE, iL, iR1, iR2, iK, iEn, dFor, dLock, oAdd, oSub, oMul, oDiv, oMod, oLt, oLe, oGt, oGe, oEq, oNe, oIn, oNotIn, oIx, oIs, oIsNot, oI, SD.isNon, inB, ixB, ixC, eqB_int, eqB_bl, eqB_str, at_nat, atI_0, atI_1, atI_2, atI_3, atI_4, ixN_0, ixN_1, ixN_2, ixN_3, ixN_4, KeyC, lenB, SD.rLen, rInt, rMax2, mAppend, mExtend, mPop, mIndex, mIndexT, mUpdate, intsD, intsOf, bools, List.set_cons_zero, List.set_cons_succ, List.length_cons, List.length_nil, Bool.not_true, Bool.not_false, if_true, if_false, Bool.false_eq_true, true_and, and_true, Option.bind_some, List.getElem?_cons_succ, List.getElem?_cons_zero, decide_eq_true_eq, Bool.not_eq_true, gput_same, gput_gput, Option.map_some, ↓reduceIte, ite_true, String.reduceBEq, String.reduceEq, decide_true, decide_false, beq_self_eq_true, gput_same]
      by_cases h : (dget kS (.int e)).isSome = true
      · rw [if_pos h] at r ⊢; exact r
      · rw [if_neg h] at r ⊢; exact r
    · have e1 : ([] : List D) ++ (intsD' sp.2.2).filterMap (fun d => if (dget kS d).isSome = true then some d else none) = intsD' (sp.2.2.filter fun e => @decide (S e ∧ ¬ False) (Classical.propDecidable _)) := by
        rw [List.nil_append]
        have key : ∀ l : List Nat, (intsD' l).filterMap (fun d => if (dget kS d).isSome = true then some d else none) = intsD' (l.filter fun e => @decide (S e ∧ ¬ False) (Classical.propDecidable _)) := by
          intro l
          induction l with
          | nil => rfl
          | cons x r ih =>
            show ((D.int (x : Nat)) :: intsD' r).filterMap _ = _
            rw [List.filterMap_cons, List.filter_cons]
            have hx : ((dget kS (.int (x : Nat))).isSome = true) ↔ S x := by rw [dset_in dS]; exact eS x
            by_cases h : S x
            · rw [if_pos (hx.mpr h), if_pos (by simpa using h), ih]; rfl
            · rw [if_neg fun z => h (hx.mp z), if_neg (by simpa using h), ih]
        exact key _
      rw [e1, intsD_ok]
      simp only [dVar, dC, dTup, dCons, dNil, dMat, dOp, dTest, dAnd, dOr, dNot, dAndV, dOrV, dNotV, dIf, dChain, asB, slot, wipe2, dSeq, dNext, dSet, dRet, dRetN, dDrop, dIfS, dBreak, dCont, dNever, dgName, dgNil, dgCons, dgTup, dAsg, dPar, dAug, dCall, dMeth, tyG, dIsi, isB, dLenQ, dTupQ, dAny, dAll, dMaxL, dLc, dDc, dMatD, dNil0, dYes, pdCopyG, plKeysG, dAugS, sSet, sPut, dSorSetT, dLenSet, oNo, oYes, dSlL, dSlT, dRepL, dIxL, dTpl, fE, qE, dLRng, dRevT, dNeg, iE, iL, iR1, iR2, iK, iEn, dFor, dLock, oAdd, oSub, oMul, oDiv, oMod, oLt, oLe, oGt, oGe, oEq, oNe, oIn, oNotIn, oIx, oIs, oIsNot, oI, SD.isNon, inB, ixB, ixC, eqB_int, eqB_bl, eqB_str, at_nat, atI_0, atI_1, atI_2, atI_3, atI_4, ixN_0, ixN_1, ixN_2, ixN_3, ixN_4, KeyC, lenB, SD.rLen, rInt, rMax2, mAppend, mExtend, mPop, mIndex, mIndexT, mUpdate, intsD, intsOf, bools, List.set_cons_zero, List.set_cons_succ, List.length_cons, List.length_nil, Bool.not_true, Bool.not_false, if_true, if_false, Bool.false_eq_true, true_and, and_true, Option.bind_some, List.getElem?_cons_succ, List.getElem?_cons_zero, decide_eq_true_eq, Bool.not_eq_true, gput_same, gput_gput, Option.map_some, ↓reduceIte, ite_true, String.reduceBEq, String.reduceEq, decide_true, decide_false, beq_self_eq_true]
      refine ⟨?_, ?_⟩
      · rw [List.length_map]
        exact Nat.le_trans (List.length_filter_le _ _) (by omega)
      · have := r1 rfl
        unfold gcnt at this
        rw [hE] at this
        exact this
  · intro l hl
    have hls : l ≠ s := fun e => by rw [e, gput_same] at hl; cases hl
    rw [gput_ne hls] at hl
    have hlw : l ≠ w := fun e => by rw [e, gput_same] at hl; cases hl
    rw [gput_ne hlw] at hl
    have hlf : l ≠ f := fun e => by rw [e, gput_same] at hl; cases hl
    rw [gput_ne hlf] at hl
    have hwf : w ≠ f := fun e => by rw [e, gput_same] at hw; cases hw
    rw [gput_ne hwf] at hw
    have hmf : m ≠ f := fun e => by rw [e, hf] at hm; cases hm
    have hmw : m ≠ w := fun e => by rw [e, hw] at hm; cases hm
    have hml : m ≠ l := fun e => by rw [e, hl] at hm; cases hm
    refine ⟨by rw [gput_ne hls.symm, gput_same], ?_⟩
    rw [gput_unlock (by rw [gput_ne hws, gput_ne hfs]; exact hs) hls]
    have hgF : SetN gm.length kG P := ⟨fG, dG, eG⟩
    refine while_inv (fun meas δ G' => ∃ (wl : List Nat) (Pd Fd : Nat → Prop) (go : Nat) (kF kL kM : List (D × D)) (fl : Nat → Int) (fL fm : Nat → Option D) (mv rk : Nat → Nat) (M : Nat) (x8 x9 : Option D),
      δ = [some (gameD gm), some (.ref b), some (.ref s), some (.int p), some (.ref gl), some (.ref m), some (.ref f), some (.ref w), x8, x9, some (.ref l)] ∧ DrH G f w l m G' kF (intsD' wl) kL kM ∧ SetN gm.length kF Fd ∧ DictN gm.length kL fL ∧ (∀ k, S k → fL k = some (.int (fl k))) ∧
      DictN gm.length kM fm ∧ (∀ j, Fd j ∧ ¬ P j ∧ (gmOf gm).own j = p → fm j = some (.int (mv j))) ∧ (∀ j, ¬ (Fd j ∧ ¬ P j ∧ (gmOf gm).own j = p) → fm j = none) ∧ Mid (gmOf gm) S P p Pd (fun _ => False) go wl Fd fl mv rk M ∧ wl.length + kS.length = meas + kF.length) ?_ (m := gs.length + kS.length - kG.length)
      ⟨gs, fun _ => False, P, 0, kG, kL, [], fun k => gcnt ((gmOf gm).E k) S fun _ => False, _, fun _ => none, fun _ => 0, fun _ => 0, 1, none, none, rfl, ⟨?_, ?_, ?_, ?_, ?_⟩, hgF, dL, fun k hk => ?_, DictN.nil _, fun j hj => absurd hj.1 fun h => hj.2.1 h, fun _ _ => rfl, ?_, ?_⟩
    · rintro meas δ G' nx ⟨wl, Pd, Fd, go, kF, kL, kM, fl, fL, fm, mv, rk, M, x8, x9, rfl, H, sF, dL, eL, dM, em1, em0, mid, hme⟩ hnx
      obtain ⟨rs, L, HB, hrl, hL⟩ := hb
      have mid0 := mid
      simp only [dVar, dC, dTup, dCons, dNil, dMat, dOp, dTest, dAnd, dOr, dNot, dAndV, dOrV, dNotV, dIf, dChain, asB, slot, wipe2, dSeq, dNext, dSet, dRet, dRetN, dDrop, dIfS, dBreak, dCont, dNever, dgName, dgNil, dgCons, dgTup, dAsg, dPar, dAug, dCall, dMeth, tyG, dIsi, isB, dLenQ, dTupQ, dAny, dAll, dMaxL, dLc, dDc, dMatD, dNil0, dYes, pdCopyG, plKeysG, dAugS, sSet, sPut, dSorSetT, dLenSet, oNo, oYes, dSlL, dSlT, dRepL, dIxL, dTpl, fE, qE, dLRng, dRevT, dNeg, iE, iL, iR1, iR2, iK, iEn, dFor, dLock, oAdd, oSub, oMul, oDiv, oMod, oLt, oLe, oGt, oGe, oEq, oNe, oIn, oNotIn, oIx, oIs, oIsNot, oI, SD.isNon, inB, ixB, ixC, eqB_int, eqB_bl, eqB_str, at_nat, atI_0, atI_1, atI_2, atI_3, atI_4, ixN_0, ixN_1, ixN_2, ixN_3, ixN_4, KeyC, lenB, SD.rLen, rInt, rMax2, mAppend, mExtend, mPop, mIndex, mIndexT, mUpdate, intsD, intsOf, bools, List.set_cons_zero, List.set_cons_succ, List.length_cons, List.length_nil, Bool.not_true, Bool.not_false, if_true, if_false, Bool.false_eq_true, true_and, and_true, Option.bind_some, List.getElem?_cons_succ, List.getElem?_cons_zero, decide_eq_true_eq, Bool.not_eq_true, gput_same, gput_gput, Option.map_some, ↓reduceIte, ite_true, String.reduceBEq, String.reduceEq, decide_true, decide_false, beq_self_eq_true, H.w_]
      have hne : ∀ {a : Addr} {mo : MO}, G a = some mo → a ≠ f ∧ a ≠ w ∧ a ≠ l := fun {a mo} e => ⟨fun z => (by rw [z, hf] at e; cases e), fun z => (by rw [z, hw] at e; cases e), fun z => (by rw [z, hl] at e; cases e)⟩
      have nol : ∀ {a : Addr} {bb : Bool} {xs : List D}, G a = some (.lst bb xs) → G' a = some (.lst bb xs) := fun {a bb xs} e => by
        obtain ⟨h1, h2, h3⟩ := hne e
        rw [H.o_ a h1 h2 h3 fun z => by rw [z, hm] at e; cases e]; exact e
      refine ite2 (fun hw0 => ?_) fun hw0 => ?_
      · obtain ⟨w', g, rfl⟩ : ∃ w' g, wl = w' ++ [g] := by
          rcases List.eq_nil_or_concat wl with h | ⟨a, b, h⟩
          · subst h; exact absurd hw0 (by simp [intsD'])
          · exact ⟨a, b, by simpa using h⟩
        obtain ⟨p1, p2⟩ := pop_at w' g
        rw [p1]
        have mid1 := mid.pop rfl
        have hgF : Fd g := mid0.wF g (by simp)
        have hgn : g < gm.length := by
          obtain ⟨fF, dF, eF⟩ := sF
          obtain ⟨ks1, _, _, mk1, lk1⟩ := dF.keys
          exact lk1 g ((mk1 g).mpr ((eF g).mpr hgF))
        obtain ⟨a, ea⟩ : ∃ a, rs[g]? = some a := ⟨rs[g], List.getElem?_eq_getElem (by omega)⟩
        have hat := HB.at_ g a ea
        have nb := nol HB.top
        have na := nol hat
        have hbw : b ≠ w := (hne HB.top).2.1
        have haw : a ≠ w := (hne hat).2.1
        simp only [dVar, dC, dTup, dCons, dNil, dMat, dOp, dTest, dAnd, dOr, dNot, dAndV, dOrV, dNotV, dIf, dChain, asB, slot, wipe2, dSeq, dNext, dSet, dRet, dRetN, dDrop, dIfS, dBreak, dCont, dNever, dgName, dgNil, dgCons, dgTup, dAsg, dPar, dAug, dCall, dMeth, tyG, dIsi, isB, dLenQ, dTupQ, dAny, dAll, dMaxL, dLc, dDc, dMatD, dNil0, dYes, pdCopyG, plKeysG, dAugS, sSet, sPut, dSorSetT, dLenSet, oNo, oYes, dSlL, dSlT, dRepL, dIxL, dTpl, fE, qE, dLRng, dRevT, dNeg, iE, iL, iR1, iR2, iK, iEn, dFor, dLock, oAdd, oSub, oMul, oDiv, oMod, oLt, oLe, oGt, oGe, oEq, oNe, oIn, oNotIn, oIx, oIs, oIsNot, oI, SD.isNon, inB, ixB, ixC, eqB_int, eqB_bl, eqB_str, at_nat, atI_0, atI_1, atI_2, atI_3, atI_4, ixN_0, ixN_1, ixN_2, ixN_3, ixN_4, KeyC, lenB, SD.rLen, rInt, rMax2, mAppend, mExtend, mPop, mIndex, mIndexT, mUpdate, intsD, intsOf, bools, List.set_cons_zero, List.set_cons_succ, List.length_cons, List.length_nil, Bool.not_true, Bool.not_false, if_true, if_false, Bool.false_eq_true, true_and, and_true, Option.bind_some, List.getElem?_cons_succ, List.getElem?_cons_zero, decide_eq_true_eq, Bool.not_eq_true, gput_same, gput_gput, Option.map_some, ↓reduceIte, ite_true, String.reduceBEq, String.reduceEq, decide_true, decide_false, beq_self_eq_true, p2, gput_ne hbw, gput_ne haw, nb, na, List.getElem?_map, ea]
        obtain ⟨nLg, mLg⟩ := hL g hgn
        have hs3 := hne hs
        have hEg : ∀ j, j ∈ L g → j < gm.length ∧ g ∈ (gmOf gm).E j := fun j hj => (mLg j).mp hj
        have nG : ∀ x, x ≠ f → x ≠ w → x ≠ l → x ≠ m → gput G' w (.lst false (intsD' w')) x = G x := fun x h1 h2 h3 h4 => by rw [gput_ne h2]; exact H.o_ x h1 h2 h3 h4
        refine for_inv (ds := intsD' (L g)) (fun pre δ G2 => ∃ (wl : List Nat) (Fd : Nat → Prop) (kF kL kM : List (D × D)) (fl : Nat → Int) (fL fm : Nat → Option D) (mv rk : Nat → Nat) (M : Nat) (x8 : Option D),
          δ = [some (gameD gm), some (.ref b), some (.ref s), some (.int p), some (.ref gl), some (.ref m), some (.ref f), some (.ref w), x8, some (.int g), some (.ref l)] ∧ DrH G f w l m G2 kF (intsD' wl) kL kM ∧ SetN gm.length kF Fd ∧ DictN gm.length kL fL ∧ (∀ k, S k → fL k = some (.int (fl k))) ∧
          DictN gm.length kM fm ∧ (∀ j, Fd j ∧ ¬ P j ∧ (gmOf gm).own j = p → fm j = some (.int (mv j))) ∧ (∀ j, ¬ (Fd j ∧ ¬ P j ∧ (gmOf gm).own j = p) → fm j = none) ∧ Mid (gmOf gm) S P p (fun s => Pd s ∨ s = g) (fun k => g ∈ (gmOf gm).E k ∧ D.int k ∉ pre) g wl Fd fl mv rk M ∧ wl.length + kS.length + 1 = meas + kF.length) ?_ ?_ _ [] _ _ rfl
          ⟨w', Fd, kF, kL, kM, fl, fL, fm, mv, rk, M, _, rfl, ⟨?_, gput_same, ?_, ?_, nG⟩, sF, dL, eL, dM, em1, em0, by simpa using mid1, by simp at hme; omega⟩
        · rintro pre x post δ G2 e2 ⟨wl2, Fd2, kF2, kL2, kM2, fl2, fL2, fm2, mv2, rk2, M2, x82, rfl, H2, sF2, dL2, eL2, dM2, em12, em02, mid2, hme2⟩
          have hm2 : x ∈ intsD' (L g) := by rw [e2]; simp
          obtain ⟨j, hj, rfl⟩ := List.mem_map.mp hm2
          obtain ⟨hjn, hjE⟩ := hEg j hj
          have hnd : (intsD' (L g)).Nodup := List.pairwise_map.mpr (nLg.imp fun h e => h (intN_inj e))
          rw [e2] at hnd
          have hnot : D.int (j : Nat) ∉ pre := fun h => (List.nodup_append.mp hnd).2.2 _ h _ List.mem_cons_self rfl
          have hat2 : G2 a = some (.lst false (intsD' (L g))) := by
            obtain ⟨h1, h2, h3⟩ := hne hat
            rw [H2.o_ a h1 h2 h3 fun z => by rw [z, hm] at hat; cases hat]; exact hat
          have hs2 : G2 s = some (.dic false false kS) := by rw [H2.o_ s hs3.1 hs3.2.1 hs3.2.2 hsm]; exact hs
          refine ⟨hat2, fun nx2 hx2 => ?_⟩
          have pend_step : ∀ k, ((g ∈ (gmOf gm).E k ∧ D.int (k : Nat) ∉ pre) ∧ k ≠ j) = (g ∈ (gmOf gm).E k ∧ D.int (k : Nat) ∉ pre ++ [D.int (j : Nat)]) := fun k => by
            apply propext
            simp only [List.mem_append, List.mem_singleton, not_or]
            exact ⟨fun q => ⟨q.1.1, q.1.2, fun e => q.2 (intN_inj e)⟩, fun q => ⟨⟨q.1, q.2.1⟩, fun e => q.2.2 (by rw [e])⟩⟩
          obtain ⟨sp, hsp, hown, hlv, hE⟩ := gm_at hjn
          have inS : (dget kS (.int (j : Nat))).isSome = true ↔ S j := by rw [dset_in dS]; exact eS j
          obtain ⟨fF2, dF2, eF2⟩ := sF2
          have inF : (dget kF2 (.int (j : Nat))).isSome = true ↔ Fd2 j := by rw [dset_in dF2]; exact eF2 j
          have lL2 := dL2.len
          have lM2 := dM2.len
          have lF2 := dF2.len
          have gml := game_ix hsp
          have nlf := hlf.symm
          have nwf := hwf.symm
          have nlw := hlw.symm
          have sf := hs3.1
          have sw := hs3.2.1
          have sl := hs3.2.2
          by_cases hSj : S j
          · by_cases hFj : Fd2 j
            · simp only [dVar, dC, dTup, dCons, dNil, dMat, dOp, dTest, dAnd, dOr, dNot, dAndV, dOrV, dNotV, dIf, dChain, asB, slot, wipe2, dSeq, dNext, dSet, dRet, dRetN, dDrop, dIfS, dBreak, dCont, dNever, dgName, dgNil, dgCons, dgTup, dAsg, dPar, dAug, dCall, dMeth, tyG, dIsi, isB, dLenQ, dTupQ, dAny, dAll, dMaxL, dLc, dDc, dMatD, dNil0, dYes, pdCopyG, plKeysG, dAugS, sSet, sPut, dSorSetT, dLenSet, oNo, oYes, dSlL, dSlT, dRepL, dIxL, dTpl, fE, qE, dLRng, dRevT, dNeg, iE, iL, iR1, iR2, iK, iEn, dFor, dLock, oAdd, oSub, oMul, oDiv, oMod, oLt, oLe, oGt, oGe, oEq, oNe, oIn, oNotIn, oIx, oIs, oIsNot, oI, SD.isNon, inB, ixB, ixC, eqB_int, eqB_bl, eqB_str, at_nat, atI_0, atI_1, atI_2, atI_3, atI_4, ixN_0, ixN_1, ixN_2, ixN_3, ixN_4, KeyC, lenB, SD.rLen, rInt, rMax2, mAppend, mExtend, mPop, mIndex, mIndexT, mUpdate, intsD, intsOf, bools, List.set_cons_zero, List.set_cons_succ, List.length_cons, List.length_nil, Bool.not_true, Bool.not_false, if_true, if_false, Bool.false_eq_true, true_and, and_true, Option.bind_some, List.getElem?_cons_succ, List.getElem?_cons_zero, decide_eq_true_eq, Bool.not_eq_true, gput_same, gput_gput, Option.map_some, ↓reduceIte, ite_true, String.reduceBEq, String.reduceEq, decide_true, decide_false, beq_self_eq_true, hs2, H2.f_, inS.mpr hSj, inF.mpr hFj]
              refine hx2 _ _ ⟨wl2, Fd2, kF2, kL2, kM2, fl2, fL2, fm2, mv2, rk2, M2, _, rfl, H2, ⟨fF2, dF2, eF2⟩, dL2, eL2, dM2, em12, em02, ?_, hme2⟩
              have := mid2.skip (j := j) fun q => q.2 hFj
              simp only [pend_step] at this; exact this
            · have hno : (dget kF2 (.int (j : Nat))).isSome = false := by
                cases q : (dget kF2 (.int (j : Nat))).isSome
                · rfl
                · exact absurd (inF.mp q) hFj
              have hgl : dget kL2 (.int (j : Nat)) = some (.int (fl2 j)) := by rw [dL2.at_]; exact eL2 j hSj
              have hm_l : m ≠ l := hml
              have hl_m : l ≠ m := hml.symm
              have hnp : mid2.left j hSj hFj = mid2.left j hSj hFj := rfl
              have hpd : g ∈ (gmOf gm).E j ∧ D.int (j : Nat) ∉ pre := ⟨hjE, hnot⟩
              have hlt : kL2.length < sizeLine := by omega
              have hlt2 : kM2.length < sizeLine := by omega
              have hlt3 : kF2.length < sizeLine := by omega
              have dput1 := dL2.put hjn (.int (fl2 j - 1))
              have eput1 : ∀ k, S k → (fun i => if i = j then some (D.int (fl2 j - 1)) else fL2 i) k = some (.int ((fun k => if k = j then fl2 j - 1 else fl2 k) k)) := fun k hk => by
                dsimp only
                by_cases e : k = j
                · rw [if_pos e, if_pos e]
                · rw [if_neg e, if_neg e]; exact eL2 k hk
              have lwl : wl2.length ≤ gm.length := by
                have := nodup_le mid2.nd (b := ks) fun x hx => (mks x).mpr ((eS x).mpr (mid2.FS x (mid2.wF x hx)))
                have h2 := congrArg List.length hks
                have h3 := dS.len
                simp at h2
                omega
              have hlt4 : (intsD' wl2).length < sizeLine := by rw [intsD', List.length_map]; omega
              have eW : intsD' wl2 ++ [D.int (j : Nat)] = intsD' (wl2 ++ [j]) := by simp [intsD']
              have sF3 : SetN gm.length (dput kF2 (.int (j : Nat)) (.bl true)) fun k => Fd2 k ∨ k = j := ⟨_, dF2.put hjn (.bl true), fun k => by
                by_cases e : k = j
                · simp [e]
                · simp only [e, if_false, or_false]; exact eF2 k⟩
              have lF3 : (dput kF2 (.int (j : Nat)) (.bl true)).length = kF2.length + 1 := by rw [dput_eq, if_neg (by rw [hno]; simp), List.length_append]; rfl
              unfold gameD
              by_cases ho : (gmOf gm).own j = p
              · have ho' : ((sp.1 : Int) = (p : Int)) = True := eq_true (by rw [← ho, hown])
                simp only [dVar, dC, dTup, dCons, dNil, dMat, dOp, dTest, dAnd, dOr, dNot, dAndV, dOrV, dNotV, dIf, dChain, asB, slot, wipe2, dSeq, dNext, dSet, dRet, dRetN, dDrop, dIfS, dBreak, dCont, dNever, dgName, dgNil, dgCons, dgTup, dAsg, dPar, dAug, dCall, dMeth, tyG, dIsi, isB, dLenQ, dTupQ, dAny, dAll, dMaxL, dLc, dDc, dMatD, dNil0, dYes, pdCopyG, plKeysG, dAugS, sSet, sPut, dSorSetT, dLenSet, oNo, oYes, dSlL, dSlT, dRepL, dIxL, dTpl, fE, qE, dLRng, dRevT, dNeg, iE, iL, iR1, iR2, iK, iEn, dFor, dLock, oAdd, oSub, oMul, oDiv, oMod, oLt, oLe, oGt, oGe, oEq, oNe, oIn, oNotIn, oIx, oIs, oIsNot, oI, SD.isNon, inB, ixB, ixC, eqB_int, eqB_bl, eqB_str, at_nat, atI_0, atI_1, atI_2, atI_3, atI_4, ixN_0, ixN_1, ixN_2, ixN_3, ixN_4, KeyC, lenB, SD.rLen, rInt, rMax2, mAppend, mExtend, mPop, mIndex, mIndexT, mUpdate, intsD, intsOf, bools, List.set_cons_zero, List.set_cons_succ, List.length_cons, List.length_nil, Bool.not_true, Bool.not_false, if_true, if_false, Bool.false_eq_true, true_and, and_true, Option.bind_some, List.getElem?_cons_succ, List.getElem?_cons_zero, decide_eq_true_eq, Bool.not_eq_true, gput_same, gput_gput, Option.map_some, ↓reduceIte, ite_true, String.reduceBEq, String.reduceEq, decide_true, decide_false, beq_self_eq_true, hs2, H2.f_, inS.mpr hSj, hno, H2.l_, hgl, List.getElem?_map, hsp, spotD, ho', hlt, gput_ne hm_l, H2.m_, hlt2, hlt3, gput_ne hmf.symm, gput_ne nlf, gput_ne hwf, gput_ne hmw.symm, gput_ne nlw, H2.w_, hlt4]
                refine hx2 _ _ ⟨wl2 ++ [j], fun k => Fd2 k ∨ k = j, _, _, _, fun k => if k = j then fl2 j - 1 else fl2 k, _, _, fun k => if k = j then g else mv2 k, fun k => if k = j then M2 else rk2 k, M2 + 1, _, rfl,
                  ⟨by rw [gput_ne nwf, gput_same], by rw [gput_same, eW], by rw [gput_ne hlw, gput_ne hlf, gput_ne hl_m, gput_same], by rw [gput_ne hmw, gput_ne hmf, gput_same], fun a h1 h2 h3 h4 => by rw [gput_ne h2, gput_ne h1, gput_ne h4, gput_ne h3]; exact H2.o_ a h1 h2 h3 h4⟩,
                  sF3, dput1, eput1, dM2.put hjn (.int g), fun k hk => ?_, fun k hk => ?_, ?_, ?_⟩
                · dsimp only
                  by_cases e : k = j
                  · rw [if_pos e, if_pos e]
                  · rw [if_neg e, if_neg e]; exact em12 k ⟨hk.1.resolve_right e, hk.2⟩
                · by_cases e : k = j
                  · subst e
                    exact absurd ⟨.inr rfl, fun hP => hFj (mid2.PF k hP), ho⟩ hk
                  · rw [if_neg e]; exact em02 k fun q => hk ⟨.inl q.1, q.2⟩
                · have := mid2.add (j := j) (mv' := fun k => if k = j then g else mv2 k) hSj hFj hpd (fun k hk => if_neg hk) (fun _ => if_pos rfl) fun h => absurd ho h
                  simp only [pend_step] at this; exact this
                · rw [lF3, List.length_append, List.length_singleton]; omega
              · have ho' : ((sp.1 : Int) = (p : Int)) = False := eq_false fun e => ho (by rw [hown]; omega)
                simp only [dVar, dC, dTup, dCons, dNil, dMat, dOp, dTest, dAnd, dOr, dNot, dAndV, dOrV, dNotV, dIf, dChain, asB, slot, wipe2, dSeq, dNext, dSet, dRet, dRetN, dDrop, dIfS, dBreak, dCont, dNever, dgName, dgNil, dgCons, dgTup, dAsg, dPar, dAug, dCall, dMeth, tyG, dIsi, isB, dLenQ, dTupQ, dAny, dAll, dMaxL, dLc, dDc, dMatD, dNil0, dYes, pdCopyG, plKeysG, dAugS, sSet, sPut, dSorSetT, dLenSet, oNo, oYes, dSlL, dSlT, dRepL, dIxL, dTpl, fE, qE, dLRng, dRevT, dNeg, iE, iL, iR1, iR2, iK, iEn, dFor, dLock, oAdd, oSub, oMul, oDiv, oMod, oLt, oLe, oGt, oGe, oEq, oNe, oIn, oNotIn, oIx, oIs, oIsNot, oI, SD.isNon, inB, ixB, ixC, eqB_int, eqB_bl, eqB_str, at_nat, atI_0, atI_1, atI_2, atI_3, atI_4, ixN_0, ixN_1, ixN_2, ixN_3, ixN_4, KeyC, lenB, SD.rLen, rInt, rMax2, mAppend, mExtend, mPop, mIndex, mIndexT, mUpdate, intsD, intsOf, bools, List.set_cons_zero, List.set_cons_succ, List.length_cons, List.length_nil, Bool.not_true, Bool.not_false, if_true, if_false, Bool.false_eq_true, true_and, and_true, Option.bind_some, List.getElem?_cons_succ, List.getElem?_cons_zero, decide_eq_true_eq, Bool.not_eq_true, gput_same, gput_gput, Option.map_some, ↓reduceIte, ite_true, String.reduceBEq, String.reduceEq, decide_true, decide_false, beq_self_eq_true, hs2, H2.f_, inS.mpr hSj, hno, H2.l_, hgl, List.getElem?_map, hsp, spotD, ho', hlt, dget_dput]
                refine ite2 (fun hc => ?_) fun hc => ?_
                · simp only [dVar, dC, dTup, dCons, dNil, dMat, dOp, dTest, dAnd, dOr, dNot, dAndV, dOrV, dNotV, dIf, dChain, asB, slot, wipe2, dSeq, dNext, dSet, dRet, dRetN, dDrop, dIfS, dBreak, dCont, dNever, dgName, dgNil, dgCons, dgTup, dAsg, dPar, dAug, dCall, dMeth, tyG, dIsi, isB, dLenQ, dTupQ, dAny, dAll, dMaxL, dLc, dDc, dMatD, dNil0, dYes, pdCopyG, plKeysG, dAugS, sSet, sPut, dSorSetT, dLenSet, oNo, oYes, dSlL, dSlT, dRepL, dIxL, dTpl, fE, qE, dLRng, dRevT, dNeg, iE, iL, iR1, iR2, iK, iEn, dFor, dLock, oAdd, oSub, oMul, oDiv, oMod, oLt, oLe, oGt, oGe, oEq, oNe, oIn, oNotIn, oIx, oIs, oIsNot, oI, SD.isNon, inB, ixB, ixC, eqB_int, eqB_bl, eqB_str, at_nat, atI_0, atI_1, atI_2, atI_3, atI_4, ixN_0, ixN_1, ixN_2, ixN_3, ixN_4, KeyC, lenB, SD.rLen, rInt, rMax2, mAppend, mExtend, mPop, mIndex, mIndexT, mUpdate, intsD, intsOf, bools, List.set_cons_zero, List.set_cons_succ, List.length_cons, List.length_nil, Bool.not_true, Bool.not_false, if_true, if_false, Bool.false_eq_true, true_and, and_true, Option.bind_some, List.getElem?_cons_succ, List.getElem?_cons_zero, decide_eq_true_eq, Bool.not_eq_true, gput_same, gput_gput, Option.map_some, ↓reduceIte, ite_true, String.reduceBEq, String.reduceEq, decide_true, decide_false, beq_self_eq_true, gput_ne nlf, H2.f_, hlt3, gput_ne hwf, gput_ne nlw, H2.w_, hlt4]
                  refine hx2 _ _ ⟨wl2 ++ [j], fun k => Fd2 k ∨ k = j, _, _, _, fun k => if k = j then fl2 j - 1 else fl2 k, _, _, mv2, fun k => if k = j then M2 else rk2 k, M2 + 1, _, rfl,
                    ⟨by rw [gput_ne nwf, gput_same], by rw [gput_same, eW], by rw [gput_ne hlw, gput_ne hlf, gput_same], by rw [gput_ne hmw, gput_ne hmf, gput_ne hm_l]; exact H2.m_, fun a h1 h2 h3 h4 => by rw [gput_ne h2, gput_ne h1, gput_ne h3]; exact H2.o_ a h1 h2 h3 h4⟩,
                    sF3, dput1, eput1, dM2, fun k hk => ?_, fun k hk => ?_, ?_, ?_⟩
                  · have e : k ≠ j := fun e => ho (e ▸ hk.2.2)
                    exact em12 k ⟨hk.1.resolve_right e, hk.2⟩
                  · exact em02 k fun q => hk ⟨.inl q.1, q.2⟩
                  · have := mid2.add (j := j) (mv' := mv2) hSj hFj hpd (fun k hk => rfl) (fun h => absurd h ho) fun _ => hc
                    simp only [pend_step] at this; exact this
                  · rw [lF3, List.length_append, List.length_singleton]; omega
                · refine hx2 _ _ ⟨wl2, Fd2, kF2, _, kM2, fun k => if k = j then fl2 j - 1 else fl2 k, _, fm2, mv2, rk2, M2, _, rfl,
                    ⟨by rw [gput_ne nlf]; exact H2.f_, by rw [gput_ne (show w ≠ l from nlw)]; exact H2.w_, gput_same, by rw [gput_ne hm_l]; exact H2.m_, fun a h1 h2 h3 h4 => by rw [gput_ne h3]; exact H2.o_ a h1 h2 h3 h4⟩,
                    ⟨fF2, dF2, eF2⟩, dput1, eput1, dM2, em12, em02, ?_, hme2⟩
                  have := mid2.dec (j := j) hSj hFj hpd ho (by omega)
                  simp only [pend_step] at this; exact this
          · have hno : (dget kS (.int (j : Nat))).isSome = false := by
              cases q : (dget kS (.int (j : Nat))).isSome
              · rfl
              · exact absurd (inS.mp q) hSj
            simp only [dVar, dC, dTup, dCons, dNil, dMat, dOp, dTest, dAnd, dOr, dNot, dAndV, dOrV, dNotV, dIf, dChain, asB, slot, wipe2, dSeq, dNext, dSet, dRet, dRetN, dDrop, dIfS, dBreak, dCont, dNever, dgName, dgNil, dgCons, dgTup, dAsg, dPar, dAug, dCall, dMeth, tyG, dIsi, isB, dLenQ, dTupQ, dAny, dAll, dMaxL, dLc, dDc, dMatD, dNil0, dYes, pdCopyG, plKeysG, dAugS, sSet, sPut, dSorSetT, dLenSet, oNo, oYes, dSlL, dSlT, dRepL, dIxL, dTpl, fE, qE, dLRng, dRevT, dNeg, iE, iL, iR1, iR2, iK, iEn, dFor, dLock, oAdd, oSub, oMul, oDiv, oMod, oLt, oLe, oGt, oGe, oEq, oNe, oIn, oNotIn, oIx, oIs, oIsNot, oI, SD.isNon, inB, ixB, ixC, eqB_int, eqB_bl, eqB_str, at_nat, atI_0, atI_1, atI_2, atI_3, atI_4, ixN_0, ixN_1, ixN_2, ixN_3, ixN_4, KeyC, lenB, SD.rLen, rInt, rMax2, mAppend, mExtend, mPop, mIndex, mIndexT, mUpdate, intsD, intsOf, bools, List.set_cons_zero, List.set_cons_succ, List.length_cons, List.length_nil, Bool.not_true, Bool.not_false, if_true, if_false, Bool.false_eq_true, true_and, and_true, Option.bind_some, List.getElem?_cons_succ, List.getElem?_cons_zero, decide_eq_true_eq, Bool.not_eq_true, gput_same, gput_gput, Option.map_some, ↓reduceIte, ite_true, String.reduceBEq, String.reduceEq, decide_true, decide_false, beq_self_eq_true, hs2, hno]
            refine hx2 _ _ ⟨wl2, Fd2, kF2, kL2, kM2, fl2, fL2, fm2, mv2, rk2, M2, _, rfl, H2, ⟨fF2, dF2, eF2⟩, dL2, eL2, dM2, em12, em02, ?_, hme2⟩
            have := mid2.skip (j := j) fun q => hSj q.1
            simp only [pend_step] at this; exact this
        · rintro δ G2 ⟨wl2, Fd2, kF2, kL2, kM2, fl2, fL2, fm2, mv2, rk2, M2, x82, rfl, H2, sF2, dL2, eL2, dM2, em12, em02, mid2, hme2⟩
          have hle : kF2.length ≤ kS.length := by
            obtain ⟨fF, dF, eF⟩ := sF2
            obtain ⟨k1, e1, n1, m1, _⟩ := dF.keys
            have h0 := nodup_le n1 (b := ks) fun x hx => (mks x).mpr ((eS x).mpr (mid2.FS x ((eF x).mp ((m1 x).mp hx))))
            have h1 := congrArg List.length e1
            have h2 := congrArg List.length hks
            simp at h1 h2
            omega
          refine ⟨?_, hnx (meas - 1) (by omega) _ _ ⟨wl2, _, Fd2, g, kF2, kL2, kM2, fl2, fL2, fm2, mv2, rk2, M2, _, _, rfl, H2, sF2, dL2, eL2, dM2, em12, em02, mid2.none fun k hk q => ?_, ?_⟩⟩
          · obtain ⟨h1, h2, h3⟩ := hne hat
            rw [H2.o_ a h1 h2 h3 fun z => by rw [z, hm] at hat; cases hat]; exact hat
          · refine q.2 (List.mem_map.mpr ⟨k, (mLg k).mpr ⟨lks k ((mks k).mpr ((eS k).mpr hk)), q.1⟩, rfl⟩)
          · omega
        · rw [gput_ne hwf.symm]; exact H.f_
        · rw [gput_ne hlw]; exact H.l_
        · rw [gput_ne hmw]; exact H.m_
      · have hwl : wl = [] := by
          cases wl with
          | nil => rfl
          | cons x r => exact absurd (show (0 : Int) < ((intsD' (x :: r)).length : Nat) by simp [intsD']) hw0
        subst hwl
        refine ⟨fun a => if a = f ∨ a = m then G' a else G a, fun a mo e => ?_, q f kF kM Fd fm mv _ mid.attr sF dM em1 em0 ?_ ?_ ?_ hf⟩
        · dsimp only at e
          split at e
          · exact e
          · rename_i h
            have h' := not_or.mp h
            obtain ⟨h1, h2, h3⟩ := hne e
            rw [H.o_ a h1 h2 h3 h'.2]; exact e
        · rw [if_pos (.inl rfl)]; exact H.f_
        · rw [if_pos (.inr rfl)]; exact H.m_
        · intro a h1 h2; rw [if_neg (not_or.mpr ⟨h1, h2⟩)]
    · rw [gput_ne hlf.symm, gput_ne hwf.symm, gput_same]
    · rw [gput_ne hlw.symm, gput_same, hgs]; rfl
    · exact gput_same
    · rw [gput_ne hml, gput_ne hmw, gput_ne hmf]; exact hm
    · intro a h1 h2 h3 h4
      rw [gput_ne h3, gput_ne h2, gput_ne h1]
    · show (if k ∈ ks ∧ true = true then _ else _) = _
      rw [if_pos ⟨(mks k).mpr ((eS k).mpr hk), rfl⟩]
    · exact .start tot ngs (fun k => by rw [mgs, eG]) hPS (fun k _ => rfl) _
    · have h1 : kG.length = gs.length := by have := congrArg List.length hgs; simpa using this
      omega
end K43

set_option Elab.async false
set_option linter.all false
set_option maxRecDepth 100000
set_option maxHeartbeats 4000000
namespace K43
open PySem PySem.Spec PyProof.Rows L2 SD
theorem sub_unlock {Gb G' : Gp} {a : Addr} {m0 m1 : MO} (s : SD.sub (gput Gb a m1) G') (h : Gb a = some m0) : SD.sub Gb (gput G' a m0) := fun c n e => by
  by_cases hc : c = a
  · subst hc; rw [gput_same, ← h]; exact e
  · rw [gput_ne hc]; exact s c n (by rw [gput_ne hc]; exact e)
theorem filt_ints (kS : List (D × D)) : ∀ l : List Nat, (intsD' l).filterMap (fun d => if (dget kS d).isSome = true then some d else none) = intsD' (l.filter fun e => (dget kS (.int (e : Nat))).isSome)
  | [] => rfl
  | x :: r => by
    show ((D.int (x : Nat)) :: intsD' r).filterMap _ = _
    rw [List.filterMap_cons, List.filter_cons, filt_ints kS r]
    by_cases h : (dget kS (.int (x : Nat))).isSome = true
    · rw [if_pos h, if_pos h]; rfl
    · rw [if_neg h, if_neg h]
theorem ix_two (e : Nat → Addr) {q : Nat} (hq : q < 2) : [D.ref (e 0), D.ref (e 1)][q]? = some (.ref (e q)) := by
  rcases (show q = 0 ∨ q = 1 by omega) with rfl | rfl <;> rfl
/-- what won_parts holds -/
structure WpH (G : Gp) (wn mv nw : Addr) (dd : Nat → Addr) (G' : Gp) (kW : Nat → List (D × D)) (kM kN : List (D × D)) : Prop where
  wn_ : G' wn = some (.lst false [.ref (dd 0), .ref (dd 1)])
  d_ : ∀ q, q < 2 → G' (dd q) = some (.dic false false (kW q))
  m_ : G' mv = some (.dic false false kM)
  n_ : G' nw = some (.dic false false kN)
  s_ : SD.sub G G'
theorem WpH.mono {G : Gp} {wn mv nw : Addr} {dd : Nat → Addr} {G1 G2 : Gp} {kW : Nat → List (D × D)} {kM kN : List (D × D)} (h : WpH G wn mv nw dd G1 kW kM kN) (s : SD.sub G1 G2) : WpH G wn mv nw dd G2 kW kM kN :=
  ⟨s _ _ h.wn_, fun q hq => s _ _ (h.d_ q hq), s _ _ h.m_, s _ _ h.n_, h.s_.trans s⟩
/-- the promise of won_parts -/
def WpPost (gm : List Spot) (S : Nat → Prop) (G : Gp) (Q : VK2) : Prop :=
  ∀ (wn mv : Addr) (dd : Nat → Addr) (kW : Nat → List (D × D)) (kM : List (D × D)) (W : Nat → Nat → Prop) (fm : Nat → Option D) (f : Nat → Nat) (G' : Gp),
    (∀ q, q < 2 → Cert (gmOf gm) S q (W q) f) → (∀ k, S k → W 0 k ∨ W 1 k) → (∀ q, q < 2 → SetN gm.length (kW q) (W q)) → DictN gm.length kM fm → (∀ k, (fm k).isSome = true → S k) → (∀ k q, q < 2 → W q k → (gmOf gm).own k = q → fm k = some (.int (f k))) →
    G' wn = some (.lst false [.ref (dd 0), .ref (dd 1)]) → (∀ q, q < 2 → G' (dd q) = some (.dic false false (kW q))) → G' mv = some (.dic false false kM) → SD.sub G G' → G wn = none → G mv = none → (∀ q, q < 2 → G (dd q) = none) → dd 0 ≠ dd 1 → (∀ q, q < 2 → dd q ≠ mv) →
    Q (.tup [.ref wn, .ref mv]) G'
theorem w_parts : ∀ (L k : Nat) {gm : List Spot} (ok : GmOk gm) {G : Gp} {Q : VK2} {b s : Addr} {S : Nat → Prop} {kS : List (D × D)} (hb : BeforeOk G b gm) (hs : G s = some (.dic false false kS)) (dS : SetN gm.length kS S) (tot : Total (gmOf gm) S) (hL : ∀ k, S k → (gmOf gm).lv k < L) (hk : L + 2 ≤ k)
    (q : WpPost gm S G Q), WF T k i_won_parts [gameD gm, .ref b, .ref s] G Q := by
  intro L
  induction L using Nat.strongRecOn with
  | ind L IH =>
  intro k0 gm ok G Q b s S kS hb hs dS tot hL hk q
  obtain ⟨k, rfl⟩ : ∃ k, k0 = k + 1 := ⟨k0 - 1, by omega⟩
  refine run rfl ?_
  show b_won_parts (WF T k) _ [some (gameD gm), some (.ref b), some (.ref s), none, none, none, none, none, none, none, none, none, none, none, none, none, none] G
  unfold b_won_parts
  have hsl : sizeLine = 16777216 := sizeLine_eq
  have most := ok.most
  refine seq_i ?_
  simp only [dVar, dC, dTup, dCons, dNil, dMat, dOp, dTest, dAnd, dOr, dNot, dAndV, dOrV, dNotV, dIf, dChain, asB, slot, wipe2, dSeq, dNext, dSet, dRet, dRetN, dDrop, dIfS, dBreak, dCont, dNever, dgName, dgNil, dgCons, dgTup, dAsg, dPar, dAug, dCall, dMeth, tyG, dIsi, isB, dLenQ, dTupQ, dAny, dAll, dMaxL, dLc, dDc, dMatD, dNil0, dYes, pdCopyG, plKeysG, dAugS, sSet, sPut, dSorSetT, dLenSet, oNo, oYes, dSlL, dSlT, dRepL, dIxL, dTpl, fE, qE, dLRng, dRevT, dNeg, iE, iL, iR1, iR2, iK, iEn, dFor, dLock, oAdd, oSub, oMul, oDiv, oMod, oLt, oLe, oGt, oGe, oEq, oNe, oIn, oNotIn, oIx, oIs, oIsNot, oI, SD.isNon, inB, ixB, ixC, eqB_int, eqB_bl, eqB_str, at_nat, atI_0, atI_1, atI_2, atI_3, atI_4, ixN_0, ixN_1, ixN_2, ixN_3, ixN_4, KeyC, lenB, SD.rLen, rInt, rMax2, mAppend, mExtend, mPop, mIndex, mIndexT, mUpdate, intsD, intsOf, bools, List.set_cons_zero, List.set_cons_succ, List.length_cons, List.length_nil, Bool.not_true, Bool.not_false, if_true, if_false, Bool.false_eq_true, true_and, and_true, Option.bind_some, List.getElem?_cons_succ, List.getElem?_cons_zero, decide_eq_true_eq, Bool.not_eq_true, gput_same, gput_gput, Option.map_some, ↓reduceIte, ite_true, String.reduceBEq, String.reduceEq, decide_true, decide_false, beq_self_eq_true]
  intro a0 h0 a1 h1 wn hwn mv hmv
  have h10 : a1 ≠ a0 := fun e => by rw [e, gput_same] at h1; cases h1
  have hw1 : wn ≠ a1 := fun e => by rw [e, gput_same] at hwn; cases hwn
  rw [gput_ne hw1] at hwn
  have hw0 : wn ≠ a0 := fun e => by rw [e, gput_same] at hwn; cases hwn
  have hmw : mv ≠ wn := fun e => by rw [e, gput_same] at hmv; cases hmv
  rw [gput_ne hmw] at hmv
  have hm1 : mv ≠ a1 := fun e => by rw [e, gput_same] at hmv; cases hmv
  rw [gput_ne hm1] at hmv
  have hm0 : mv ≠ a0 := fun e => by rw [e, gput_same] at hmv; cases hmv
  rw [gput_ne hm0] at hmv
  rw [gput_ne hw0] at hwn
  rw [gput_ne h10] at h1
  let dd : Nat → Addr := fun q => if q = 0 then a0 else a1
  have two : ∀ k, S k → (gmOf gm).own k < 2 := fun k hk => by
    obtain ⟨fS, dS, eS⟩ := dS
    obtain ⟨ks, _, _, mk, lk⟩ := dS.keys
    obtain ⟨sp, hsp, ho, _⟩ := gm_at (lk k ((mk k).mpr ((eS k).mpr hk)))
    rw [ho]; exact ok.two _ _ hsp
  have ddn : ∀ q, G (dd q) = none := fun q => by
    show G (if q = 0 then a0 else a1) = none
    split <;> assumption
  have dds : ∀ q, q < 2 → q = 0 ∨ q = 1 := fun q hq => by omega
  have d01 : dd 0 ≠ dd 1 := fun e => h10 e.symm
  have ddm : ∀ q, dd q ≠ mv := fun q => by
    show (if q = 0 then a0 else a1) ≠ mv
    split
    · exact hm0.symm
    · exact hm1.symm
  have hs0 : ∀ {a : Addr}, G a = none → s ≠ a := fun {a} h e => by rw [e, h] at hs; cases hs
  have Hst : WpH G wn mv s dd (gput (gput (gput (gput G a0 (.dic false false [])) a1 (.dic false false [])) wn (.lst false [.ref a0, .ref a1])) mv (.dic false false [])) (fun _ => []) [] kS := by
    refine ⟨by rw [gput_ne hmw.symm, gput_same]; rfl, fun q hq => ?_, gput_same, ?_, (((SD.sub.refl.upd h0).upd h1).upd hwn).upd hmv⟩
    · rcases dds q hq with rfl | rfl
      · show gput _ _ _ a0 = _
        rw [gput_ne hm0.symm, gput_ne hw0.symm, gput_ne h10.symm, gput_same]
      · show gput _ _ _ a1 = _
        rw [gput_ne hm1.symm, gput_ne hw1.symm, gput_same]
    · rw [gput_ne (hs0 hmv), gput_ne (hs0 hwn), gput_ne (hs0 h1), gput_ne (hs0 h0)]; exact hs
  refine while_inv (fun meas δ G' => ∃ (nw : Addr) (N : Nat → Prop) (W : Nat → Nat → Prop) (kW : Nat → List (D × D)) (kM kN : List (D × D)) (fm : Nat → Option D) (f : Nat → Nat) (x6 x7 x8 x9 x10 x11 x12 x13 x14 x15 x16 : Option D),
    δ = [some (gameD gm), some (.ref b), some (.ref s), some (.ref wn), some (.ref mv), some (.ref nw), x6, x7, x8, x9, x10, x11, x12, x13, x14, x15, x16] ∧ WpH G wn mv nw dd G' kW kM kN ∧ (∀ q, nw ≠ dd q) ∧ nw ≠ mv ∧ SetN gm.length kN N ∧ (∀ q, q < 2 → SetN gm.length (kW q) (W q)) ∧
    DictN gm.length kM fm ∧ (∀ k, (fm k).isSome = true → S k ∧ ¬ N k) ∧ (∀ k q, q < 2 → W q k → (gmOf gm).own k = q → fm k = some (.int (f k))) ∧ Parts (gmOf gm) S N W f ∧ kN.length = meas) ?_
    ⟨s, S, fun _ _ => False, fun _ => [], [], kS, fun _ => none, fun _ => 0, _, _, _, _, _, _, _, _, _, _, _, rfl, Hst, fun q => hs0 (ddn q), hs0 hmv, dS, fun q _ => ⟨_, DictN.nil _, fun k => by simp⟩, DictN.nil _, fun k h => by simp at h, fun _ _ _ h => h.elim, .start two tot _, rfl⟩
  rintro meas δ G' nx ⟨nw, N, W, kW, kM, kN, fm, f, x6, x7, x8, x9, x10, x11, x12, x13, x14, x15, x16, rfl, H, hnd, hnm, sN, sW, dM, eM0, eM1, PP, rfl⟩ hnx
  obtain ⟨fN, dN, eN⟩ := sN
  obtain ⟨ns, hns, nns, mns, lns⟩ := dN.keys
  simp only [dVar, dC, dTup, dCons, dNil, dMat, dOp, dTest, dAnd, dOr, dNot, dAndV, dOrV, dNotV, dIf, dChain, asB, slot, wipe2, dSeq, dNext, dSet, dRet, dRetN, dDrop, dIfS, dBreak, dCont, dNever, dgName, dgNil, dgCons, dgTup, dAsg, dPar, dAug, dCall, dMeth, tyG, dIsi, isB, dLenQ, dTupQ, dAny, dAll, dMaxL, dLc, dDc, dMatD, dNil0, dYes, pdCopyG, plKeysG, dAugS, sSet, sPut, dSorSetT, dLenSet, oNo, oYes, dSlL, dSlT, dRepL, dIxL, dTpl, fE, qE, dLRng, dRevT, dNeg, iE, iL, iR1, iR2, iK, iEn, dFor, dLock, oAdd, oSub, oMul, oDiv, oMod, oLt, oLe, oGt, oGe, oEq, oNe, oIn, oNotIn, oIx, oIs, oIsNot, oI, SD.isNon, inB, ixB, ixC, eqB_int, eqB_bl, eqB_str, at_nat, atI_0, atI_1, atI_2, atI_3, atI_4, ixN_0, ixN_1, ixN_2, ixN_3, ixN_4, KeyC, lenB, SD.rLen, rInt, rMax2, mAppend, mExtend, mPop, mIndex, mIndexT, mUpdate, intsD, intsOf, bools, List.set_cons_zero, List.set_cons_succ, List.length_cons, List.length_nil, Bool.not_true, Bool.not_false, if_true, if_false, Bool.false_eq_true, true_and, and_true, Option.bind_some, List.getElem?_cons_succ, List.getElem?_cons_zero, decide_eq_true_eq, Bool.not_eq_true, gput_same, gput_gput, Option.map_some, ↓reduceIte, ite_true, String.reduceBEq, String.reduceEq, decide_true, decide_false, beq_self_eq_true, H.n_]
  refine ite2 (fun hpos => ?_) fun hpos => ?_
  · refine ⟨by rw [List.length_map]; have := dN.len; omega, ?_⟩
    rw [hns]
    refine lc_pure (fun d => match d with | .int i => some (.int ((gmOf gm).lv i.toNat)) | _ => none) trivial _ [] (fun x hx R1 R0 r => ?_) ?_
    · obtain ⟨j, hj, rfl⟩ := List.mem_map.mp hx
      obtain ⟨sp, hsp, hown, hlv, hE⟩ := gm_at (lns j hj)
      unfold gameD
      simp only [dVar, dC, dTup, dCons, dNil, dMat, dOp, dTest, dAnd, dOr, dNot, dAndV, dOrV, dNotV, dIf, dChain, asB, slot, wipe2, dSeq, dNext, dSet, dRet, dRetN, dDrop, dIfS, dBreak, dCont, dNever, dgName, dgNil, dgCons, dgTup, dAsg, dPar, dAug, dCall, dMeth, tyG, dIsi, isB, dLenQ, dTupQ, dAny, dAll, dMaxL, dLc, dDc, dMatD, dNil0, dYes, pdCopyG, plKeysG, dAugS, sSet, sPut, dSorSetT, dLenSet, oNo, oYes, dSlL, dSlT, dRepL, dIxL, dTpl, fE, qE, dLRng, dRevT, dNeg, iE, iL, iR1, iR2, iK, iEn, dFor, dLock, oAdd, oSub, oMul, oDiv, oMod, oLt, oLe, oGt, oGe, oEq, oNe, oIn, oNotIn, oIx, oIs, oIsNot, oI, SD.isNon, inB, ixB, ixC, eqB_int, eqB_bl, eqB_str, at_nat, atI_0, atI_1, atI_2, atI_3, atI_4, ixN_0, ixN_1, ixN_2, ixN_3, ixN_4, KeyC, lenB, SD.rLen, rInt, rMax2, mAppend, mExtend, mPop, mIndex, mIndexT, mUpdate, intsD, intsOf, bools, List.set_cons_zero, List.set_cons_succ, List.length_cons, List.length_nil, Bool.not_true, Bool.not_false, if_true, if_false, Bool.false_eq_true, true_and, and_true, Option.bind_some, List.getElem?_cons_succ, List.getElem?_cons_zero, decide_eq_true_eq, Bool.not_eq_true, gput_same, gput_gput, Option.map_some, ↓reduceIte, ite_true, String.reduceBEq, String.reduceEq, decide_true, decide_false, beq_self_eq_true, List.getElem?_map, hsp, spotD]
      simpa [hlv] using r
    · have e1 : intsOf (([] : List D) ++ List.filterMap (fun d => match d with | .int i => some (.int ((gmOf gm).lv i.toNat)) | _ => none) (ns.map fun (k : Nat) => D.int k)) = some (ns.map fun j => (((gmOf gm).lv j : Nat) : Int)) := by
        rw [List.nil_append]
        have key : ∀ l : List Nat, intsOf (List.filterMap (fun d => match d with | .int i => some (.int ((gmOf gm).lv i.toNat)) | _ => none) (l.map fun (k : Nat) => D.int k)) = some (l.map fun j => (((gmOf gm).lv j : Nat) : Int)) := by
          intro l
          induction l with
          | nil => rfl
          | cons x r ih =>
            rw [List.map_cons, List.filterMap_cons]
            show (intsOf _).map (_ :: ·) = _
            rw [ih]; simp
        exact key ns
      rw [e1]
      have hnl : ns.length = kN.length := by have := congrArg List.length hns; simp at this; exact this.symm
      refine ⟨fun e => ?_, fun m hm hmax => ⟨gput_same, by decide, ?_⟩⟩
      · have := congrArg List.length e
        simp at this
        subst this
        simp at hnl
        rw [← hnl] at hpos
        exact absurd hpos (by decide)
      obtain ⟨j0, hj0, rfl⟩ := List.mem_map.mp hm
      obtain ⟨t, ht⟩ : ∃ t, t = (gmOf gm).lv j0 := ⟨_, rfl⟩
      rw [← ht]
      have nN : ∀ k, k ∈ ns ↔ N k := fun k => by rw [mns, eN]
      have hN0 : N j0 := (nN j0).mp hj0
      have hmx : ∀ k, N k → (gmOf gm).lv k ≤ t := fun k hk => by
        have := hmax _ (List.mem_map.mpr ⟨k, (nN k).mpr hk, rfl⟩)
        rw [ht]; omega
      obtain ⟨p, hp⟩ : ∃ p, p = t % 2 := ⟨_, rfl⟩
      have hp2 : p < 2 := by omega
      have hfm : ((t : Nat) : Int).fmod 2 = ((p : Nat) : Int) := by rw [Int.fmod_eq_emod_of_nonneg _ (by decide)]; omega
      rw [hfm, gput_unlock0 H.n_]
      intro o ho
      have hno : nw ≠ o := fun e => by rw [← e, H.n_] at ho; cases ho
      simp only [dVar, dC, dTup, dCons, dNil, dMat, dOp, dTest, dAnd, dOr, dNot, dAndV, dOrV, dNotV, dIf, dChain, asB, slot, wipe2, dSeq, dNext, dSet, dRet, dRetN, dDrop, dIfS, dBreak, dCont, dNever, dgName, dgNil, dgCons, dgTup, dAsg, dPar, dAug, dCall, dMeth, tyG, dIsi, isB, dLenQ, dTupQ, dAny, dAll, dMaxL, dLc, dDc, dMatD, dNil0, dYes, pdCopyG, plKeysG, dAugS, sSet, sPut, dSorSetT, dLenSet, oNo, oYes, dSlL, dSlT, dRepL, dIxL, dTpl, fE, qE, dLRng, dRevT, dNeg, iE, iL, iR1, iR2, iK, iEn, dFor, dLock, oAdd, oSub, oMul, oDiv, oMod, oLt, oLe, oGt, oGe, oEq, oNe, oIn, oNotIn, oIx, oIs, oIsNot, oI, SD.isNon, inB, ixB, ixC, eqB_int, eqB_bl, eqB_str, at_nat, atI_0, atI_1, atI_2, atI_3, atI_4, ixN_0, ixN_1, ixN_2, ixN_3, ixN_4, KeyC, lenB, SD.rLen, rInt, rMax2, mAppend, mExtend, mPop, mIndex, mIndexT, mUpdate, intsD, intsOf, bools, List.set_cons_zero, List.set_cons_succ, List.length_cons, List.length_nil, Bool.not_true, Bool.not_false, if_true, if_false, Bool.false_eq_true, true_and, and_true, Option.bind_some, List.getElem?_cons_succ, List.getElem?_cons_zero, decide_eq_true_eq, Bool.not_eq_true, gput_same, gput_gput, Option.map_some, ↓reduceIte, ite_true, String.reduceBEq, String.reduceEq, decide_true, decide_false, beq_self_eq_true, gput_ne hno, H.n_]
      refine ⟨by rw [List.length_map]; have := dN.len; omega, ?_⟩
      rw [hns]
      refine dc_set nns lns (fun k => (gmOf gm).lv k = t) trivial (fun j hj R1 R0 r1 r0 => ?_) fun kT sT0 => ?_
      · obtain ⟨sp, hsp, hown, hlv, hE⟩ := gm_at (lns j hj)
        unfold gameD
        simp only [dVar, dC, dTup, dCons, dNil, dMat, dOp, dTest, dAnd, dOr, dNot, dAndV, dOrV, dNotV, dIf, dChain, asB, slot, wipe2, dSeq, dNext, dSet, dRet, dRetN, dDrop, dIfS, dBreak, dCont, dNever, dgName, dgNil, dgCons, dgTup, dAsg, dPar, dAug, dCall, dMeth, tyG, dIsi, isB, dLenQ, dTupQ, dAny, dAll, dMaxL, dLc, dDc, dMatD, dNil0, dYes, pdCopyG, plKeysG, dAugS, sSet, sPut, dSorSetT, dLenSet, oNo, oYes, dSlL, dSlT, dRepL, dIxL, dTpl, fE, qE, dLRng, dRevT, dNeg, iE, iL, iR1, iR2, iK, iEn, dFor, dLock, oAdd, oSub, oMul, oDiv, oMod, oLt, oLe, oGt, oGe, oEq, oNe, oIn, oNotIn, oIx, oIs, oIsNot, oI, SD.isNon, inB, ixB, ixC, eqB_int, eqB_bl, eqB_str, at_nat, atI_0, atI_1, atI_2, atI_3, atI_4, ixN_0, ixN_1, ixN_2, ixN_3, ixN_4, KeyC, lenB, SD.rLen, rInt, rMax2, mAppend, mExtend, mPop, mIndex, mIndexT, mUpdate, intsD, intsOf, bools, List.set_cons_zero, List.set_cons_succ, List.length_cons, List.length_nil, Bool.not_true, Bool.not_false, if_true, if_false, Bool.false_eq_true, true_and, and_true, Option.bind_some, List.getElem?_cons_succ, List.getElem?_cons_zero, decide_eq_true_eq, Bool.not_eq_true, gput_same, gput_gput, Option.map_some, ↓reduceIte, ite_true, String.reduceBEq, String.reduceEq, decide_true, decide_false, beq_self_eq_true, List.getElem?_map, hsp, spotD]
        refine ite2 (fun e => r1 (by rw [hlv]; omega)) fun e => r0 fun z => e (by rw [← z, hlv])
      intro tp htp
      have htn : tp ≠ nw := fun e => by rw [e, gput_same] at htp; cases htp
      rw [gput_ne htn] at htp
      have hto : tp ≠ o := fun e => by rw [e, gput_same] at htp; cases htp
      rw [gput_ne hto] at htp
      refine ⟨by rw [gput_ne htn.symm, gput_same], ?_⟩
      rw [gput_unlock (by rw [gput_ne hno]; exact H.n_) htn]
      have sT : SetN gm.length kT fun k => N k ∧ (gmOf gm).lv k = t := sT0.iff fun k => by rw [nN]
      have s1 : SD.sub G' (gput (gput G' o (.dic false false [])) tp (.dic false false kT)) := (SD.sub.refl.upd ho).upd htp
      have sNf : SetN gm.length kN N := ⟨fN, dN, eN⟩
      obtain ⟨k', rfl⟩ : ∃ k', k = k' + 1 := ⟨k - 1, by omega⟩
      refine w_drawn ok (S := N) (P := fun k => N k ∧ (gmOf gm).lv k = t) (hb.sub (H.s_.trans s1)) (s1 _ _ H.n_) sNf gput_same sT (fun _ h => h.1) (by rw [gput_ne hto.symm, gput_same]) hno hto PP.tot p ?_
      intro nr kR kO near fO mO G2 at_ sR dO eO1 eO0 hnr hO hfr hfree
      have hnrG' : G' nr = none := s1.none hfree
      have s2 : SD.sub G' G2 := fun c n e => by
        have h1 : c ≠ nr := fun z => by rw [z, hnrG'] at e; cases e
        have h2 : c ≠ o := fun z => by rw [z, ho] at e; cases e
        rw [hfr c h1 h2]; exact s1 _ _ e
      have H2 := H.mono s2
      have hnn : nr ≠ nw := fun z => by rw [z, H.n_] at hnrG'; cases hnrG'
      have hnto : nr ≠ tp := fun z => by rw [z, gput_same] at hfree; cases hfree
      have hnoo : nr ≠ o := fun z => by rw [z, gput_ne hto.symm, gput_same] at hfree; cases hfree
      have hT2 : G2 tp = some (.dic false false kT) := by rw [hfr tp hnto.symm hto]; exact gput_same
      obtain ⟨fR, dR, eR⟩ := sR
      simp only [dVar, dC, dTup, dCons, dNil, dMat, dOp, dTest, dAnd, dOr, dNot, dAndV, dOrV, dNotV, dIf, dChain, asB, slot, wipe2, dSeq, dNext, dSet, dRet, dRetN, dDrop, dIfS, dBreak, dCont, dNever, dgName, dgNil, dgCons, dgTup, dAsg, dPar, dAug, dCall, dMeth, tyG, dIsi, isB, dLenQ, dTupQ, dAny, dAll, dMaxL, dLc, dDc, dMatD, dNil0, dYes, pdCopyG, plKeysG, dAugS, sSet, sPut, dSorSetT, dLenSet, oNo, oYes, dSlL, dSlT, dRepL, dIxL, dTpl, fE, qE, dLRng, dRevT, dNeg, iE, iL, iR1, iR2, iK, iEn, dFor, dLock, oAdd, oSub, oMul, oDiv, oMod, oLt, oLe, oGt, oGe, oEq, oNe, oIn, oNotIn, oIx, oIs, oIsNot, oI, SD.isNon, inB, ixB, ixC, eqB_int, eqB_bl, eqB_str, at_nat, atI_0, atI_1, atI_2, atI_3, atI_4, ixN_0, ixN_1, ixN_2, ixN_3, ixN_4, KeyC, lenB, SD.rLen, rInt, rMax2, mAppend, mExtend, mPop, mIndex, mIndexT, mUpdate, intsD, intsOf, bools, List.set_cons_zero, List.set_cons_succ, List.length_cons, List.length_nil, Bool.not_true, Bool.not_false, if_true, if_false, Bool.false_eq_true, true_and, and_true, Option.bind_some, List.getElem?_cons_succ, List.getElem?_cons_zero, decide_eq_true_eq, Bool.not_eq_true, gput_same, gput_gput, Option.map_some, ↓reduceIte, ite_true, String.reduceBEq, String.reduceEq, decide_true, decide_false, beq_self_eq_true, H2.n_]
      refine ⟨by rw [List.length_map]; have := dN.len; omega, ?_⟩
      rw [hns]
      refine dc_set nns lns (fun k => ¬ near k) trivial (fun j hj R1 R0 r1 r0 => ?_) fun kQ sQ0 => ?_
      · simp only [dVar, dC, dTup, dCons, dNil, dMat, dOp, dTest, dAnd, dOr, dNot, dAndV, dOrV, dNotV, dIf, dChain, asB, slot, wipe2, dSeq, dNext, dSet, dRet, dRetN, dDrop, dIfS, dBreak, dCont, dNever, dgName, dgNil, dgCons, dgTup, dAsg, dPar, dAug, dCall, dMeth, tyG, dIsi, isB, dLenQ, dTupQ, dAny, dAll, dMaxL, dLc, dDc, dMatD, dNil0, dYes, pdCopyG, plKeysG, dAugS, sSet, sPut, dSorSetT, dLenSet, oNo, oYes, dSlL, dSlT, dRepL, dIxL, dTpl, fE, qE, dLRng, dRevT, dNeg, iE, iL, iR1, iR2, iK, iEn, dFor, dLock, oAdd, oSub, oMul, oDiv, oMod, oLt, oLe, oGt, oGe, oEq, oNe, oIn, oNotIn, oIx, oIs, oIsNot, oI, SD.isNon, inB, ixB, ixC, eqB_int, eqB_bl, eqB_str, at_nat, atI_0, atI_1, atI_2, atI_3, atI_4, ixN_0, ixN_1, ixN_2, ixN_3, ixN_4, KeyC, lenB, SD.rLen, rInt, rMax2, mAppend, mExtend, mPop, mIndex, mIndexT, mUpdate, intsD, intsOf, bools, List.set_cons_zero, List.set_cons_succ, List.length_cons, List.length_nil, Bool.not_true, Bool.not_false, if_true, if_false, Bool.false_eq_true, true_and, and_true, Option.bind_some, List.getElem?_cons_succ, List.getElem?_cons_zero, decide_eq_true_eq, Bool.not_eq_true, gput_same, gput_gput, Option.map_some, ↓reduceIte, ite_true, String.reduceBEq, String.reduceEq, decide_true, decide_false, beq_self_eq_true, gput_ne hnn, hnr]
        by_cases h : near j
        · have e : (dget kR (.int (j : Nat))).isSome = true := by rw [dset_in dR]; exact (eR j).mpr h
          rw [e]
          exact r0 fun z => z h
        · have e : (dget kR (.int (j : Nat))).isSome = false := by
            cases q : (dget kR (.int (j : Nat))).isSome
            · rfl
            · rw [dset_in dR] at q; exact absurd ((eR j).mp q) h
          rw [e]
          exact r1 h
      intro rr hrr
      have hrn : rr ≠ nw := fun e => by rw [e, gput_same] at hrr; cases hrr
      have hrr2 : G2 rr = none := by rw [gput_ne hrn] at hrr; exact hrr
      have sQ : SetN gm.length kQ fun k => N k ∧ ¬ near k := sQ0.iff fun k => by rw [nN]
      have htL : t < L := by rw [ht]; exact hL j0 (PP.sub j0 hN0)
      have hbR : BeforeOk (gput (gput G2 nw (.dic true false kN)) rr (.dic false false kQ)) b gm := hb.lst fun a l xs e => by
        have e2 := H2.s_ _ _ e
        have h1 : a ≠ rr := fun z => by rw [z, hrr2] at e2; cases e2
        have h2 : a ≠ nw := fun z => by rw [z, H2.n_] at e2; cases e2
        rw [gput_ne h1, gput_ne h2]; exact e2
      have lvR : ∀ k, N k ∧ ¬ near k → (gmOf gm).lv k < t := fun k hk => by
        have h1 := hmx k hk.1
        have h2 : (gmOf gm).lv k ≠ t := fun z => hk.2 (at_.has k ⟨hk.1, z⟩)
        omega
      refine IH t htL (k' + 1) ok (S := fun k => N k ∧ ¬ near k) hbR gput_same sQ (at_.total PP.tot) lvR (by omega) ?_
      intro wn2 mv2 dd2 kW2 kM2 W2 fm2 f2 G3 c2 cov2 sW2 dM2 eM02 eM12 hwn2 hd2 hm2 hsub2 hfw2 hfm2 hfd2 hd012 hdm2
      have hG3n : G3 nw = some (.dic true false kN) := hsub2 _ _ (by rw [gput_ne hrn.symm, gput_same])
      have s3 : SD.sub G2 (gput G3 nw (.dic false false kN)) := sub_unlock (m1 := .dic true false kN) (fun c n e => hsub2 _ _ (by
        have h1 : c ≠ rr := fun z => by
          rw [z] at e
          rw [gput_ne hrn, hrr2] at e
          cases e
        rw [gput_ne h1]; exact e)) H2.n_
      have ne3 : ∀ {a : Addr}, gput (gput G2 nw (.dic true false kN)) rr (.dic false false kQ) a = none → a ≠ nw := fun {a} h e => by rw [e, gput_ne hrn.symm, gput_same] at h; cases h
      have hnw2 := ne3 hfw2
      have hnm2 := ne3 hfm2
      have hnd2 : ∀ q, q < 2 → dd2 q ≠ nw := fun q hq => ne3 (hfd2 q hq)
      obtain ⟨G4, hG4⟩ : ∃ G4, G4 = gput G3 nw (.dic false false kN) := ⟨_, rfl⟩
      have H4 : WpH G wn mv nw dd G4 kW kM kN := by rw [hG4]; exact H2.mono s3
      have hwn4 : G4 wn2 = some (.lst false [.ref (dd2 0), .ref (dd2 1)]) := by rw [hG4, gput_ne hnw2]; exact hwn2
      have hd4 : ∀ q, q < 2 → G4 (dd2 q) = some (.dic false false (kW2 q)) := fun q hq => by rw [hG4, gput_ne (hnd2 q hq)]; exact hd2 q hq
      have hm4 : G4 mv2 = some (.dic false false kM2) := by rw [hG4, gput_ne hnm2]; exact hm2
      have hO4 : G4 o = some (.dic false false kO) := by rw [hG4]; exact s3 _ _ hO
      have hT4 : G4 tp = some (.dic false false kT) := by rw [hG4]; exact s3 _ _ hT2
      have cast1 : (1 : Int) - (p : Int) = ((1 - p : Nat) : Int) := by omega
      have hq1 : 1 - p < 2 := by omega
      have frG2 : ∀ {a c : Addr} {mo : MO}, G2 a = some mo → gput (gput G2 nw (.dic true false kN)) rr (.dic false false kQ) c = none → c ≠ a := fun {a c mo} e h z => by
        subst z
        have h1 : c ≠ rr := fun z => by rw [z, hrr2] at e; cases e
        have h2 : c ≠ nw := ne3 h
        rw [gput_ne h1, gput_ne h2, e] at h; cases h
      have frG' : ∀ {a : Addr} {mo : MO}, G' a = some mo → a ≠ o ∧ a ≠ tp ∧ a ≠ nr ∧ a ≠ mv2 := fun {a mo} e => ⟨fun z => (by rw [z, ho] at e; cases e), fun z => (by rw [z, htp] at e; cases e), fun z => (by rw [z, hnrG'] at e; cases e), (frG2 (s2 _ _ e) hfm2).symm⟩
      have fo := frG2 hO hfm2
      have ft := frG2 hT2 hfm2
      obtain ⟨n1, n2, n3, n4⟩ := frG' (H.d_ p hp2)
      obtain ⟨n5, n6, n7, n8⟩ := frG' H.m_
      obtain ⟨n9, n10, n11, n12⟩ := frG' H.n_
      have ddmp := ddm p
      have lenN := dN.len
      have lenW := (sW p hp2).len
      have lenM := dM.len
      have lenM2 := dM2.len
      have lenO := dO.len
      have lenA : (kW p).length + kN.length ≤ sizeLine := by omega
      simp only [dVar, dC, dTup, dCons, dNil, dMat, dOp, dTest, dAnd, dOr, dNot, dAndV, dOrV, dNotV, dIf, dChain, asB, slot, wipe2, dSeq, dNext, dSet, dRet, dRetN, dDrop, dIfS, dBreak, dCont, dNever, dgName, dgNil, dgCons, dgTup, dAsg, dPar, dAug, dCall, dMeth, tyG, dIsi, isB, dLenQ, dTupQ, dAny, dAll, dMaxL, dLc, dDc, dMatD, dNil0, dYes, pdCopyG, plKeysG, dAugS, sSet, sPut, dSorSetT, dLenSet, oNo, oYes, dSlL, dSlT, dRepL, dIxL, dTpl, fE, qE, dLRng, dRevT, dNeg, iE, iL, iR1, iR2, iK, iEn, dFor, dLock, oAdd, oSub, oMul, oDiv, oMod, oLt, oLe, oGt, oGe, oEq, oNe, oIn, oNotIn, oIx, oIs, oIsNot, oI, SD.isNon, inB, ixB, ixC, eqB_int, eqB_bl, eqB_str, at_nat, atI_0, atI_1, atI_2, atI_3, atI_4, ixN_0, ixN_1, ixN_2, ixN_3, ixN_4, KeyC, lenB, SD.rLen, rInt, rMax2, mAppend, mExtend, mPop, mIndex, mIndexT, mUpdate, intsD, intsOf, bools, List.set_cons_zero, List.set_cons_succ, List.length_cons, List.length_nil, Bool.not_true, Bool.not_false, if_true, if_false, Bool.false_eq_true, true_and, and_true, Option.bind_some, List.getElem?_cons_succ, List.getElem?_cons_zero, decide_eq_true_eq, Bool.not_eq_true, gput_same, gput_gput, Option.map_some, ↓reduceIte, ite_true, String.reduceBEq, String.reduceEq, decide_true, decide_false, beq_self_eq_true]
      rw [← hG4]
      refine ⟨hG3n, ?_⟩
      rw [cast1]
      simp only [dVar, dC, dTup, dCons, dNil, dMat, dOp, dTest, dAnd, dOr, dNot, dAndV, dOrV, dNotV, dIf, dChain, asB, slot, wipe2, dSeq, dNext, dSet, dRet, dRetN, dDrop, dIfS, dBreak, dCont, dNever, dgName, dgNil, dgCons, dgTup, dAsg, dPar, dAug, dCall, dMeth, tyG, dIsi, isB, dLenQ, dTupQ, dAny, dAll, dMaxL, dLc, dDc, dMatD, dNil0, dYes, pdCopyG, plKeysG, dAugS, sSet, sPut, dSorSetT, dLenSet, oNo, oYes, dSlL, dSlT, dRepL, dIxL, dTpl, fE, qE, dLRng, dRevT, dNeg, iE, iL, iR1, iR2, iK, iEn, dFor, dLock, oAdd, oSub, oMul, oDiv, oMod, oLt, oLe, oGt, oGe, oEq, oNe, oIn, oNotIn, oIx, oIs, oIsNot, oI, SD.isNon, inB, ixB, ixC, eqB_int, eqB_bl, eqB_str, at_nat, atI_0, atI_1, atI_2, atI_3, atI_4, ixN_0, ixN_1, ixN_2, ixN_3, ixN_4, KeyC, lenB, SD.rLen, rInt, rMax2, mAppend, mExtend, mPop, mIndex, mIndexT, mUpdate, intsD, intsOf, bools, List.set_cons_zero, List.set_cons_succ, List.length_cons, List.length_nil, Bool.not_true, Bool.not_false, if_true, if_false, Bool.false_eq_true, true_and, and_true, Option.bind_some, List.getElem?_cons_succ, List.getElem?_cons_zero, decide_eq_true_eq, Bool.not_eq_true, gput_same, gput_gput, Option.map_some, ↓reduceIte, ite_true, String.reduceBEq, String.reduceEq, decide_true, decide_false, beq_self_eq_true, hwn4, ix_two dd2 hq1, hd4 (1 - p) hq1]
      refine ite2 (fun hz => ?_) fun hz => ?_
      · simp only [dVar, dC, dTup, dCons, dNil, dMat, dOp, dTest, dAnd, dOr, dNot, dAndV, dOrV, dNotV, dIf, dChain, asB, slot, wipe2, dSeq, dNext, dSet, dRet, dRetN, dDrop, dIfS, dBreak, dCont, dNever, dgName, dgNil, dgCons, dgTup, dAsg, dPar, dAug, dCall, dMeth, tyG, dIsi, isB, dLenQ, dTupQ, dAny, dAll, dMaxL, dLc, dDc, dMatD, dNil0, dYes, pdCopyG, plKeysG, dAugS, sSet, sPut, dSorSetT, dLenSet, oNo, oYes, dSlL, dSlT, dRepL, dIxL, dTpl, fE, qE, dLRng, dRevT, dNeg, iE, iL, iR1, iR2, iK, iEn, dFor, dLock, oAdd, oSub, oMul, oDiv, oMod, oLt, oLe, oGt, oGe, oEq, oNe, oIn, oNotIn, oIx, oIs, oIsNot, oI, SD.isNon, inB, ixB, ixC, eqB_int, eqB_bl, eqB_str, at_nat, atI_0, atI_1, atI_2, atI_3, atI_4, ixN_0, ixN_1, ixN_2, ixN_3, ixN_4, KeyC, lenB, SD.rLen, rInt, rMax2, mAppend, mExtend, mPop, mIndex, mIndexT, mUpdate, intsD, intsOf, bools, List.set_cons_zero, List.set_cons_succ, List.length_cons, List.length_nil, Bool.not_true, Bool.not_false, if_true, if_false, Bool.false_eq_true, true_and, and_true, Option.bind_some, List.getElem?_cons_succ, List.getElem?_cons_zero, decide_eq_true_eq, Bool.not_eq_true, gput_same, gput_gput, Option.map_some, ↓reduceIte, ite_true, String.reduceBEq, String.reduceEq, decide_true, decide_false, beq_self_eq_true, H4.wn_, ix_two dd hp2, H4.d_ p hp2, H4.n_, gput_ne ddmp.symm, H4.m_, gput_ne n4.symm, hm4, gput_ne n1.symm, hO4, gput_ne n8.symm, gput_ne n5.symm, gput_ne n2.symm, gput_ne n6.symm, hT4]
        have dMb := (dM.merge dM2).merge dO
        have lenMb := dMb.len
        have lenMa := (dM.merge dM2).len
        refine ⟨(hnd p).symm, lenA, n8, by omega, n5, by omega, ?_⟩
        obtain ⟨G5, hG5⟩ : ∃ G5, G5 = gput (gput G4 (dd p) (.dic false false (dmerge (kW p) kN))) mv (.dic false false (dmerge (dmerge kM kM2) kO)) := ⟨_, rfl⟩
        obtain ⟨kMb, hkMb⟩ : ∃ kMb, kMb = dmerge (dmerge kM kM2) kO := ⟨_, rfl⟩
        rw [← hG5]
        rw [← hkMb] at hG5 dMb
        have h5 : ∀ a, a ≠ dd p → a ≠ mv → G5 a = G4 a := fun a h1 h2 => by rw [hG5, gput_ne h2, gput_ne h1]
        have h5m : G5 mv = some (.dic false false kMb) := by rw [hG5, gput_same]
        have h5d : G5 (dd p) = some (.dic false false (dmerge (kW p) kN)) := by rw [hG5, gput_ne (ddm p), gput_same]
        obtain ⟨fT, dT, eT⟩ := sT
        obtain ⟨ts, hts, nts, mts, lts⟩ := dT.keys
        have tT : ∀ k, k ∈ ts ↔ N k ∧ (gmOf gm).lv k = t := fun k => by rw [mts]; exact eT k
        let fg : Nat → Nat := fun k => (((gmOf gm).E k).filter fun e => (dget kN (.int (e : Nat))).isSome).headD 0
        have memN : ∀ k : Nat, (dget kN (.int k)).isSome = true ↔ N k := fun k => by rw [dset_in dN]; exact eN k
        have fgok : ∀ k, N k → ∃ r, ((gmOf gm).E k).filter (fun e => (dget kN (.int (e : Nat))).isSome) = fg k :: r ∧ fg k ∈ (gmOf gm).E k ∧ N (fg k) := fun k hk => by
          obtain ⟨x, hx, hN⟩ := PP.tot k hk
          have hm := (List.mem_filter (p := fun e => (dget kN (.int (e : Nat))).isSome)).mpr ⟨hx, (memN x).mpr hN⟩
          cases e : ((gmOf gm).E k).filter fun e => (dget kN (.int (e : Nat))).isSome with
          | nil => rw [e] at hm; cases hm
          | cons y r =>
            have hy : fg k = y := by show (List.filter _ _).headD 0 = y; rw [e]; rfl
            have hmy : y ∈ ((gmOf gm).E k).filter fun e => (dget kN (.int (e : Nat))).isSome := by rw [e]; exact List.mem_cons_self
            have := List.mem_filter.mp hmy
            rw [hy]
            exact ⟨r, rfl, this.1, (memN y).mp this.2⟩
        have htdd : ∀ q, q < 2 → dd q ≠ tp := fun q hq => (frG' (H.d_ q hq)).2.1
        rw [hts]
        refine for_inv (ds := ts.map fun (k : Nat) => D.int k) (fun pre δ G6 => ∃ (x6 : Option D) (kM' : List (D × D)) (fm' : Nat → Option D), δ = [some (gameD gm), some (.ref b), some (.ref s), some (.ref wn), some (.ref mv), some (.ref nw), x6, some (.int t), some (.int p), some (.ref o), some (.ref tp), some (.ref nr), some (.ref wn2), some (.ref mv2), x14, x15, x16] ∧
          G6 mv = some (.dic false false kM') ∧ (∀ a, a ≠ mv → G6 a = gput G5 tp (.dic true false kT) a) ∧ DictN gm.length kM' fm' ∧ (∀ k, D.int (k : Nat) ∈ pre → (gmOf gm).own k = p → fm' k = some (.int (fg k))) ∧ (∀ k, ¬ (D.int (k : Nat) ∈ pre ∧ (gmOf gm).own k = p) → fm' k = (fO k).or ((fm2 k).or (fm k)))) ?_ ?_ _ [] _ _ rfl
          ⟨_, kMb, _, rfl, by rw [gput_ne n6]; exact h5m, fun _ _ => rfl, dMb, fun _ h => by simp at h, fun _ _ => rfl⟩
        · rintro pre x post δ G6 e ⟨y6, kM', fm', rfl, h6m, h6, dM', e6a, e6b⟩
          refine ⟨trivial, fun nx2 hx2 => ?_⟩
          have hx : x ∈ ts.map fun (k : Nat) => D.int k := by rw [e]; simp
          obtain ⟨j, hj, rfl⟩ := List.mem_map.mp hx
          obtain ⟨hNj, hlvj⟩ := (tT j).mp hj
          have hjn := lts j hj
          obtain ⟨sp, hsp, hown, hlv, hE⟩ := gm_at hjn
          have h6n : G6 nw = some (.dic false false kN) := by rw [h6 nw hnm, gput_ne n10, h5 nw (hnd p) hnm]; exact H4.n_
          have lenM' := dM'.len
          obtain ⟨rr', hfil, hfE, hfN⟩ := fgok j hNj
          unfold gameD
          by_cases ho : (gmOf gm).own j = p
          · have ho' : ((sp.1 : Int) = (p : Int)) = True := eq_true (by rw [← ho, hown])
            simp only [dVar, dC, dTup, dCons, dNil, dMat, dOp, dTest, dAnd, dOr, dNot, dAndV, dOrV, dNotV, dIf, dChain, asB, slot, wipe2, dSeq, dNext, dSet, dRet, dRetN, dDrop, dIfS, dBreak, dCont, dNever, dgName, dgNil, dgCons, dgTup, dAsg, dPar, dAug, dCall, dMeth, tyG, dIsi, isB, dLenQ, dTupQ, dAny, dAll, dMaxL, dLc, dDc, dMatD, dNil0, dYes, pdCopyG, plKeysG, dAugS, sSet, sPut, dSorSetT, dLenSet, oNo, oYes, dSlL, dSlT, dRepL, dIxL, dTpl, fE, qE, dLRng, dRevT, dNeg, iE, iL, iR1, iR2, iK, iEn, dFor, dLock, oAdd, oSub, oMul, oDiv, oMod, oLt, oLe, oGt, oGe, oEq, oNe, oIn, oNotIn, oIx, oIs, oIsNot, oI, SD.isNon, inB, ixB, ixC, eqB_int, eqB_bl, eqB_str, at_nat, atI_0, atI_1, atI_2, atI_3, atI_4, ixN_0, ixN_1, ixN_2, ixN_3, ixN_4, KeyC, lenB, SD.rLen, rInt, rMax2, mAppend, mExtend, mPop, mIndex, mIndexT, mUpdate, intsD, intsOf, bools, List.set_cons_zero, List.set_cons_succ, List.length_cons, List.length_nil, Bool.not_true, Bool.not_false, if_true, if_false, Bool.false_eq_true, true_and, and_true, Option.bind_some, List.getElem?_cons_succ, List.getElem?_cons_zero, decide_eq_true_eq, Bool.not_eq_true, gput_same, gput_gput, Option.map_some, ↓reduceIte, ite_true, String.reduceBEq, String.reduceEq, decide_true, decide_false, beq_self_eq_true, List.getElem?_map, hsp, spotD, ho']
            refine ⟨by rw [intsD', List.length_map]; have := ok.few _ _ hsp; omega, ?_⟩
            refine lc_pure (fun d => if (dget kN d).isSome = true then some d else none) trivial _ [] (fun x hx R1 R0 r => ?_) ?_
            · obtain ⟨e, he, rfl⟩ := List.mem_map.mp hx
              simp only [dVar, dC, dTup, dCons, dNil, dMat, dOp, dTest, dAnd, dOr, dNot, dAndV, dOrV, dNotV, dIf, dChain, asB, slot, wipe2, dSeq, dNext, dSet, dRet, dRetN, dDrop, dIfS, dBreak, dCont, dNever, dgName, dgNil, dgCons, dgTup, dAsg, dPar, dAug, dCall, dMeth, tyG, dIsi, isB, dLenQ, dTupQ, dAny, dAll, dMaxL, dLc, dDc, dMatD, dNil0, dYes, pdCopyG, plKeysG, dAugS, sSet, sPut, dSorSetT, dLenSet, oNo, oYes, dSlL, dSlT, dRepL, dIxL, dTpl, fE, qE, dLRng, dRevT, dNeg, iE, iL, iR1, iR2, iK, iEn, dFor, dLock, oAdd, oSub, oMul, oDiv, oMod, oLt, oLe, oGt, oGe, oEq, oNe, oIn, oNotIn, oIx, oIs, oIsNot, oI, SD.isNon, inB, ixB, ixC, eqB_int, eqB_bl, eqB_str, at_nat, atI_0, atI_1, atI_2, atI_3, atI_4, ixN_0, ixN_1, ixN_2, ixN_3, ixN_4, KeyC, lenB, SD.rLen, rInt, rMax2, mAppend, mExtend, mPop, mIndex, mIndexT, mUpdate, intsD, intsOf, bools, List.set_cons_zero, List.set_cons_succ, List.length_cons, List.length_nil, Bool.not_true, Bool.not_false, if_true, if_false, Bool.false_eq_true, true_and, and_true, Option.bind_some, List.getElem?_cons_succ, List.getElem?_cons_zero, decide_eq_true_eq, Bool.not_eq_true, gput_same, gput_gput, Option.map_some, ↓reduceIte, ite_true, String.reduceBEq, String.reduceEq, decide_true, decide_false, beq_self_eq_true, h6n]
              by_cases h : (dget kN (.int (e : Nat))).isSome = true
              · rw [if_pos h] at r ⊢; exact r
              · rw [if_neg h] at r ⊢; exact r
            · rw [List.nil_append, filt_ints, ← hE, hfil]
              show (match atI (D.int (fg j : Nat) :: intsD' rr') 0 with | some d => _ | none => False)
              rw [atI_0]
              simp only [dVar, dC, dTup, dCons, dNil, dMat, dOp, dTest, dAnd, dOr, dNot, dAndV, dOrV, dNotV, dIf, dChain, asB, slot, wipe2, dSeq, dNext, dSet, dRet, dRetN, dDrop, dIfS, dBreak, dCont, dNever, dgName, dgNil, dgCons, dgTup, dAsg, dPar, dAug, dCall, dMeth, tyG, dIsi, isB, dLenQ, dTupQ, dAny, dAll, dMaxL, dLc, dDc, dMatD, dNil0, dYes, pdCopyG, plKeysG, dAugS, sSet, sPut, dSorSetT, dLenSet, oNo, oYes, dSlL, dSlT, dRepL, dIxL, dTpl, fE, qE, dLRng, dRevT, dNeg, iE, iL, iR1, iR2, iK, iEn, dFor, dLock, oAdd, oSub, oMul, oDiv, oMod, oLt, oLe, oGt, oGe, oEq, oNe, oIn, oNotIn, oIx, oIs, oIsNot, oI, SD.isNon, inB, ixB, ixC, eqB_int, eqB_bl, eqB_str, at_nat, atI_0, atI_1, atI_2, atI_3, atI_4, ixN_0, ixN_1, ixN_2, ixN_3, ixN_4, KeyC, lenB, SD.rLen, rInt, rMax2, mAppend, mExtend, mPop, mIndex, mIndexT, mUpdate, intsD, intsOf, bools, List.set_cons_zero, List.set_cons_succ, List.length_cons, List.length_nil, Bool.not_true, Bool.not_false, if_true, if_false, Bool.false_eq_true, true_and, and_true, Option.bind_some, List.getElem?_cons_succ, List.getElem?_cons_zero, decide_eq_true_eq, Bool.not_eq_true, gput_same, gput_gput, Option.map_some, ↓reduceIte, ite_true, String.reduceBEq, String.reduceEq, decide_true, decide_false, beq_self_eq_true, h6m]
              refine ⟨by omega, hx2 _ _ ⟨_, _, _, rfl, gput_same, fun a ha => by rw [gput_ne ha]; exact h6 a ha, dM'.put hjn (.int (fg j : Nat)), fun k hk ho2 => ?_, fun k hk => ?_⟩⟩
              · by_cases e : k = j
                · rw [if_pos e, e]
                · rw [if_neg e]
                  refine e6a k ?_ ho2
                  rcases List.mem_append.mp hk with h | h
                  · exact h
                  · exact absurd (intN_inj (by simpa using h)) e
              · have e : k ≠ j := fun e => hk ⟨by rw [e]; simp, by rw [e]; exact ho⟩
                rw [if_neg e]
                exact e6b k fun q => hk ⟨List.mem_append_left _ q.1, q.2⟩
          · have ho' : ((sp.1 : Int) = (p : Int)) = False := eq_false fun e => ho (by rw [hown]; omega)
            simp only [dVar, dC, dTup, dCons, dNil, dMat, dOp, dTest, dAnd, dOr, dNot, dAndV, dOrV, dNotV, dIf, dChain, asB, slot, wipe2, dSeq, dNext, dSet, dRet, dRetN, dDrop, dIfS, dBreak, dCont, dNever, dgName, dgNil, dgCons, dgTup, dAsg, dPar, dAug, dCall, dMeth, tyG, dIsi, isB, dLenQ, dTupQ, dAny, dAll, dMaxL, dLc, dDc, dMatD, dNil0, dYes, pdCopyG, plKeysG, dAugS, sSet, sPut, dSorSetT, dLenSet, oNo, oYes, dSlL, dSlT, dRepL, dIxL, dTpl, fE, qE, dLRng, dRevT, dNeg, iE, iL, iR1, iR2, iK, iEn, dFor, dLock, oAdd, oSub, oMul, oDiv, oMod, oLt, oLe, oGt, oGe, oEq, oNe, oIn, oNotIn, oIx, oIs, oIsNot, oI, SD.isNon, inB, ixB, ixC, eqB_int, eqB_bl, eqB_str, at_nat, atI_0, atI_1, atI_2, atI_3, atI_4, ixN_0, ixN_1, ixN_2, ixN_3, ixN_4, KeyC, lenB, SD.rLen, rInt, rMax2, mAppend, mExtend, mPop, mIndex, mIndexT, mUpdate, intsD, intsOf, bools, List.set_cons_zero, List.set_cons_succ, List.length_cons, List.length_nil, Bool.not_true, Bool.not_false, if_true, if_false, Bool.false_eq_true, true_and, and_true, Option.bind_some, List.getElem?_cons_succ, List.getElem?_cons_zero, decide_eq_true_eq, Bool.not_eq_true, gput_same, gput_gput, Option.map_some, ↓reduceIte, ite_true, String.reduceBEq, String.reduceEq, decide_true, decide_false, beq_self_eq_true, List.getElem?_map, hsp, spotD, ho']
            refine hx2 _ _ ⟨_, kM', fm', rfl, h6m, h6, dM', fun k hk ho2 => ?_, fun k hk => ?_⟩
            · have e : k ≠ j := fun e => ho (e ▸ ho2)
              refine e6a k ?_ ho2
              rcases List.mem_append.mp hk with h | h
              · exact h
              · exact absurd (intN_inj (by simpa using h)) e
            · exact e6b k fun q => hk ⟨List.mem_append_left _ q.1, q.2⟩
        · rintro δ G6 ⟨y6, kM', fm', rfl, h6m, h6, dM', e6a, e6b⟩
          refine ⟨trivial, by rw [h6 tp n6.symm, gput_same], fun p0 hp0 => ?_⟩
          have key : ∀ a, a ≠ dd p → a ≠ mv → a ≠ tp → gput G6 tp (.dic false false kT) a = G4 a := fun a h1 h2 h3 => by rw [gput_ne h3, h6 a h2, gput_ne h3, h5 a h1 h2]
          have hGtp : G tp = none := H.s_.none htp
          have ne0 : ∀ {a : Addr} {mo : MO}, gput G6 tp (.dic false false kT) a = some mo → a ≠ p0 := fun {a mo} e z => by rw [z, hp0] at e; cases e
          have hwnt : wn ≠ tp := fun z => by have := H.wn_; rw [z, htp] at this; cases this
          have hwnm : wn ≠ mv := hmw.symm
          have hwnd : ∀ q, wn ≠ dd q := fun q => by
            show wn ≠ if q = 0 then a0 else a1
            split
            · exact hw0
            · exact hw1
          have v_wn : gput G6 tp (.dic false false kT) wn = some (.lst false [.ref (dd 0), .ref (dd 1)]) := by rw [key wn (hwnd p) hwnm hwnt]; exact H4.wn_
          have v_dp : gput G6 tp (.dic false false kT) (dd p) = some (.dic false false (dmerge (kW p) kN)) := by rw [gput_ne (htdd p hp2), h6 _ (ddm p), gput_ne (htdd p hp2)]; exact h5d
          have v_d : ∀ q, q < 2 → gput G6 tp (.dic false false kT) (dd q) = some (.dic false false (if q = p then dmerge (kW p) kN else kW q)) := fun q hq => by
            by_cases e : q = p
            · rw [e, if_pos rfl]; exact v_dp
            · have : dd q ≠ dd p := fun z => by
                rcases dds q hq with rfl | rfl <;> rcases dds p hp2 with h | h <;> rw [h] at e z
                · exact e rfl
                · exact d01 z
                · exact d01 z.symm
                · exact e rfl
              rw [if_neg e, key _ this (ddm q) (htdd q hq)]; exact H4.d_ q hq
          have v_m : gput G6 tp (.dic false false kT) mv = some (.dic false false kM') := by rw [gput_ne n6]; exact h6m
          have hf2 : ∀ k, N k → (gmOf gm).lv k = t → near k := fun k h1 h2 => at_.has k ⟨h1, h2⟩
          have w0 : ∀ k, ¬ W2 (1 - p) k := fun k hk => by
            obtain ⟨f9, d9, e9⟩ := sW2 (1 - p) hq1
            have h0 : (kW2 (1 - p)).length = 0 := by omega
            have : kW2 (1 - p) = [] := List.eq_nil_of_length_eq_zero h0
            have h1 := (e9 k).mpr hk
            rw [← d9.at_, this, dget_nil] at h1
            simp at h1
          have wp : ∀ k, W2 p k ↔ N k ∧ ¬ near k := fun k => ⟨(c2 p hp2).sub k, fun h => by
            rcases cov2 k h with z | z
            · rcases dds p hp2 with e | e
              · rw [e]; exact z
              · exact absurd z (by have := w0 k; rw [e] at this; exact this)
            · rcases dds p hp2 with e | e
              · exact absurd z (by have := w0 k; rw [e] at this; exact this)
              · rw [e]; exact z⟩
          have cR := (c2 p hp2).iff (fun _ => Iff.rfl) wp
          let f' : Nat → Nat := fun k => @ite _ (N k) (Classical.propDecidable _) (@ite _ (near k) (Classical.propDecidable _) (if (gmOf gm).lv k = t then fg k else mO k) (f2 k)) (f k)
          have f'1 : ∀ k, N k → ¬ near k → f' k = f2 k := fun k h1 h2 => (if_pos h1).trans (if_neg h2)
          have f'2 : ∀ k, near k → (gmOf gm).lv k ≠ t → f' k = mO k := fun k h1 h2 => (if_pos (at_.sub k h1)).trans ((if_pos h1).trans (if_neg h2))
          have f'3 : ∀ k, N k → (gmOf gm).lv k = t → f' k = fg k := fun k h1 h2 => (if_pos h1).trans ((if_pos (hf2 k h1 h2)).trans (if_pos h2))
          have f'0 : ∀ k, ¬ N k → f' k = f k := fun k h1 => if_neg h1
          have cN : Cert (gmOf gm) N p N f' := win_all hp.symm hmx at_ cR (fun k h1 h2 _ => f'1 k h1 h2) (fun k h1 h2 _ => f'2 k h1 h2) fun k h1 h2 _ => by
            rw [f'3 k h1 h2]; obtain ⟨_, _, a, b⟩ := fgok k h1; exact ⟨a, b⟩
          have PP' := PP.far (f' := f') hp2 cN (fun k h1 h2 => absurd h1 h2) (fun k h => absurd h.1 h.2) (fun k r hr hk => f'0 k fun h => PP.apart k r hr h hk) fun _ _ _ => rfl
          have tsin : ∀ k, D.int (k : Nat) ∈ ts.map (fun (k : Nat) => D.int k) ↔ N k ∧ (gmOf gm).lv k = t := fun k => by
            rw [← tT]
            constructor
            · intro h; obtain ⟨z, hz, ez⟩ := List.mem_map.mp h; rw [← intN_inj ez]; exact hz
            · intro h; exact List.mem_map.mpr ⟨k, h, rfl⟩
          refine hnx 0 (by omega) _ _ ⟨p0, fun k => N k ∧ ¬ N k, fun r k => W r k ∨ (r = p ∧ N k), fun q => if q = p then dmerge (kW p) kN else kW q, kM', [], fm', f', _, _, _, _, _, _, _, _, _, _, _, rfl,
            ⟨by rw [gput_ne (ne0 v_wn)]; exact v_wn, fun q hq => by rw [gput_ne (ne0 (v_d q hq))]; exact v_d q hq, by rw [gput_ne (ne0 v_m)]; exact v_m, gput_same, fun c n e => ?_⟩, fun q => ?_, (ne0 v_m).symm, ⟨_, DictN.nil _, fun k => by simp⟩, fun q hq => ?_, dM', fun k hk => ?_, fun k q hq hk ho => ?_, PP', rfl⟩
          · have e4 := H4.s_ _ _ e
            have h1 : c ≠ dd p := fun z => by rw [z, ddn p] at e; cases e
            have h2 : c ≠ mv := fun z => by rw [z, hmv] at e; cases e
            have h3 : c ≠ tp := fun z => by rw [z, hGtp] at e; cases e
            have h4 : gput G6 tp (.dic false false kT) c = some n := by rw [key c h1 h2 h3]; exact e4
            rw [gput_ne (ne0 h4)]; exact h4
          · rcases (show dd q = dd 0 ∨ dd q = dd 1 by
              by_cases h : q = 0
              · left; rw [h]
              · right; show (if q = 0 then a0 else a1) = a1; rw [if_neg h]) with h | h
            · rw [h]; exact (ne0 (v_d 0 (by decide))).symm
            · rw [h]; exact (ne0 (v_d 1 (by decide))).symm
          · dsimp only
            by_cases e : q = p
            · rw [if_pos e]
              exact ((sW p hp2).merge sNf).iff fun k => by rw [e]; simp
            · rw [if_neg e]
              exact (sW q hq).iff fun k => by simp [e]
          · refine ⟨?_, fun h => h.2 h.1⟩
            by_cases h : D.int (k : Nat) ∈ ts.map (fun (k : Nat) => D.int k) ∧ (gmOf gm).own k = p
            · exact PP.sub k ((tsin k).mp h.1).1
            · rw [e6b k h] at hk
              by_cases hO : (fO k).isSome = true
              · by_cases hh : near k ∧ ¬ (N k ∧ (gmOf gm).lv k = t) ∧ (gmOf gm).own k = p
                · exact PP.sub k (at_.sub k hh.1)
                · rw [eO0 k hh] at hO; simp at hO
              · have : fO k = none := by simpa using hO
                rw [this, Option.none_or] at hk
                by_cases h2 : (fm2 k).isSome = true
                · exact PP.sub k (eM02 k h2).1
                · have : fm2 k = none := by simpa using h2
                  rw [this, Option.none_or] at hk
                  exact (eM0 k hk).1
          · rcases hk with hk | ⟨rfl, hk⟩
            · have hNk : ¬ N k := fun h => PP.apart k q hq h hk
              rw [f'0 k hNk, e6b k fun h => hNk ((tsin k).mp h.1).1, eO0 k fun h => hNk (at_.sub k h.1)]
              have : fm2 k = none := by
                cases h : fm2 k with
                | none => rfl
                | some d => exact absurd (eM02 k (by rw [h]; rfl)).1 hNk
              rw [this, Option.none_or, Option.none_or]
              exact eM1 k q hq hk ho
            · by_cases ht2 : (gmOf gm).lv k = t
              · rw [e6a k ((tsin k).mpr ⟨hk, ht2⟩) ho, f'3 k hk ht2]
              · rw [e6b k fun h => ht2 ((tsin k).mp h.1).2]
                by_cases hnk : near k
                · rw [f'2 k hnk ht2, eO1 k ⟨hnk, fun h => ht2 h.2, ho⟩]; rfl
                · rw [f'1 k hk hnk, eO0 k fun h => hnk h.1, Option.none_or, eM12 k q hq ((wp k).mpr ⟨hk, hnk⟩) ho]; rfl
      · intro lo hlo
        have nlo : ∀ {a : Addr} {mo : MO}, G4 a = some mo → a ≠ lo := fun {a mo} e z => by rw [z, hlo] at e; cases e
        have q4 := hd4 (1 - p) hq1
        simp only [dVar, dC, dTup, dCons, dNil, dMat, dOp, dTest, dAnd, dOr, dNot, dAndV, dOrV, dNotV, dIf, dChain, asB, slot, wipe2, dSeq, dNext, dSet, dRet, dRetN, dDrop, dIfS, dBreak, dCont, dNever, dgName, dgNil, dgCons, dgTup, dAsg, dPar, dAug, dCall, dMeth, tyG, dIsi, isB, dLenQ, dTupQ, dAny, dAll, dMaxL, dLc, dDc, dMatD, dNil0, dYes, pdCopyG, plKeysG, dAugS, sSet, sPut, dSorSetT, dLenSet, oNo, oYes, dSlL, dSlT, dRepL, dIxL, dTpl, fE, qE, dLRng, dRevT, dNeg, iE, iL, iR1, iR2, iK, iEn, dFor, dLock, oAdd, oSub, oMul, oDiv, oMod, oLt, oLe, oGt, oGe, oEq, oNe, oIn, oNotIn, oIx, oIs, oIsNot, oI, SD.isNon, inB, ixB, ixC, eqB_int, eqB_bl, eqB_str, at_nat, atI_0, atI_1, atI_2, atI_3, atI_4, ixN_0, ixN_1, ixN_2, ixN_3, ixN_4, KeyC, lenB, SD.rLen, rInt, rMax2, mAppend, mExtend, mPop, mIndex, mIndexT, mUpdate, intsD, intsOf, bools, List.set_cons_zero, List.set_cons_succ, List.length_cons, List.length_nil, Bool.not_true, Bool.not_false, if_true, if_false, Bool.false_eq_true, true_and, and_true, Option.bind_some, List.getElem?_cons_succ, List.getElem?_cons_zero, decide_eq_true_eq, Bool.not_eq_true, gput_same, gput_gput, Option.map_some, ↓reduceIte, ite_true, String.reduceBEq, String.reduceEq, decide_true, decide_false, beq_self_eq_true, gput_ne (nlo hwn4), hwn4, ix_two dd2 hq1]
        obtain ⟨G5, hG5⟩ : ∃ G5, G5 = gput G4 lo (.dic false false []) := ⟨_, rfl⟩
        have s5 : SD.sub G4 G5 := by rw [hG5]; exact SD.sub.refl.upd hlo
        rw [← hG5]
        have H5 := H4.mono s5
        refine w_drawn ok (S := N) (P := W2 (1 - p)) (hb.sub H5.s_) H5.n_ sNf (s5 _ _ q4) (sW2 (1 - p) hq1) (fun k hk => ((c2 (1 - p) hq1).sub k hk).1) (by rw [hG5, gput_same]) (nlo H4.n_) (nlo q4) PP.tot (1 - p) ?_
        intro fa kA kLo far fl lm G6 at2 sA dLo eLo1 eLo0 hfa hLo hfr6 hfree6
        have hfan : ∀ {a : Addr} {mo : MO}, G5 a = some mo → a ≠ fa := fun {a mo} e z => by rw [z, hfree6] at e; cases e
        have s6 : SD.sub G4 G6 := fun c n e => by rw [hfr6 c (hfan (s5 _ _ e)) (nlo e)]; exact s5 _ _ e
        have H6 := H4.mono s6
        have hwn6 := s6 _ _ hwn4
        have q6 := s6 _ _ q4
        have m6 := s6 _ _ hm4
        have lenA2 := sA.len
        have lenLo := dLo.len
        have lenW1 := (sW (1 - p) hq1).len
        have f_dd : dd (1 - p) ≠ fa := hfan (s5 _ _ (H4.d_ (1 - p) hq1))
        have f_mv : mv ≠ fa := hfan (s5 _ _ H4.m_)
        have f_mv2 : mv2 ≠ fa := hfan (s5 _ _ hm4)
        have f_nw : nw ≠ fa := hfan (s5 _ _ H4.n_)
        have l_mv : mv ≠ lo := nlo H4.m_
        have l_dd : dd (1 - p) ≠ lo := nlo (H4.d_ (1 - p) hq1)
        have l_mv2 : mv2 ≠ lo := nlo hm4
        obtain ⟨n1', n2', n3', n4'⟩ := frG' (H.d_ (1 - p) hq1)
        have ddm1 := ddm (1 - p)
        have wn2_mv2 : wn2 ≠ mv2 := fun z => by rw [z, hm4] at hwn4; cases hwn4
        have wn2_mv := frG2 H2.m_ hfw2
        have wn2_dd := frG2 (H2.d_ (1 - p) hq1) hfw2
        have d2_mv2 := hdm2 (1 - p) hq1
        have d2_mv := frG2 H2.m_ (hfd2 (1 - p) hq1)
        have d2_dd := frG2 (H2.d_ (1 - p) hq1) (hfd2 (1 - p) hq1)
        simp only [dVar, dC, dTup, dCons, dNil, dMat, dOp, dTest, dAnd, dOr, dNot, dAndV, dOrV, dNotV, dIf, dChain, asB, slot, wipe2, dSeq, dNext, dSet, dRet, dRetN, dDrop, dIfS, dBreak, dCont, dNever, dgName, dgNil, dgCons, dgTup, dAsg, dPar, dAug, dCall, dMeth, tyG, dIsi, isB, dLenQ, dTupQ, dAny, dAll, dMaxL, dLc, dDc, dMatD, dNil0, dYes, pdCopyG, plKeysG, dAugS, sSet, sPut, dSorSetT, dLenSet, oNo, oYes, dSlL, dSlT, dRepL, dIxL, dTpl, fE, qE, dLRng, dRevT, dNeg, iE, iL, iR1, iR2, iK, iEn, dFor, dLock, oAdd, oSub, oMul, oDiv, oMod, oLt, oLe, oGt, oGe, oEq, oNe, oIn, oNotIn, oIx, oIs, oIsNot, oI, SD.isNon, inB, ixB, ixC, eqB_int, eqB_bl, eqB_str, at_nat, atI_0, atI_1, atI_2, atI_3, atI_4, ixN_0, ixN_1, ixN_2, ixN_3, ixN_4, KeyC, lenB, SD.rLen, rInt, rMax2, mAppend, mExtend, mPop, mIndex, mIndexT, mUpdate, intsD, intsOf, bools, List.set_cons_zero, List.set_cons_succ, List.length_cons, List.length_nil, Bool.not_true, Bool.not_false, if_true, if_false, Bool.false_eq_true, true_and, and_true, Option.bind_some, List.getElem?_cons_succ, List.getElem?_cons_zero, decide_eq_true_eq, Bool.not_eq_true, gput_same, gput_gput, Option.map_some, ↓reduceIte, ite_true, String.reduceBEq, String.reduceEq, decide_true, decide_false, beq_self_eq_true, H6.wn_, ix_two dd hq1, H6.d_ (1 - p) hq1, hfa, gput_ne ddm1.symm, H6.m_, gput_ne l_dd.symm, hLo, gput_ne n4'.symm, gput_ne n8.symm, m6, gput_ne n8]
        refine ⟨f_dd, by omega, l_mv, by omega, by rw [List.length_map]; omega, ?_⟩
        obtain ⟨ms, hms, nms, mms, lms⟩ := dM2.keys
        rw [hms]
        refine dc_comp nms lms (fun k => (dget (kW2 (1 - p)) (.int (k : Nat))).isSome) (fun k => (fm2 k).getD .non) trivial (fun j hj R1 R0 r1 r0 => ?_) fun kC dC' => ?_
        · simp only [dVar, dC, dTup, dCons, dNil, dMat, dOp, dTest, dAnd, dOr, dNot, dAndV, dOrV, dNotV, dIf, dChain, asB, slot, wipe2, dSeq, dNext, dSet, dRet, dRetN, dDrop, dIfS, dBreak, dCont, dNever, dgName, dgNil, dgCons, dgTup, dAsg, dPar, dAug, dCall, dMeth, tyG, dIsi, isB, dLenQ, dTupQ, dAny, dAll, dMaxL, dLc, dDc, dMatD, dNil0, dYes, pdCopyG, plKeysG, dAugS, sSet, sPut, dSorSetT, dLenSet, oNo, oYes, dSlL, dSlT, dRepL, dIxL, dTpl, fE, qE, dLRng, dRevT, dNeg, iE, iL, iR1, iR2, iK, iEn, dFor, dLock, oAdd, oSub, oMul, oDiv, oMod, oLt, oLe, oGt, oGe, oEq, oNe, oIn, oNotIn, oIx, oIs, oIsNot, oI, SD.isNon, inB, ixB, ixC, eqB_int, eqB_bl, eqB_str, at_nat, atI_0, atI_1, atI_2, atI_3, atI_4, ixN_0, ixN_1, ixN_2, ixN_3, ixN_4, KeyC, lenB, SD.rLen, rInt, rMax2, mAppend, mExtend, mPop, mIndex, mIndexT, mUpdate, intsD, intsOf, bools, List.set_cons_zero, List.set_cons_succ, List.length_cons, List.length_nil, Bool.not_true, Bool.not_false, if_true, if_false, Bool.false_eq_true, true_and, and_true, Option.bind_some, List.getElem?_cons_succ, List.getElem?_cons_zero, decide_eq_true_eq, Bool.not_eq_true, gput_same, gput_gput, Option.map_some, ↓reduceIte, ite_true, String.reduceBEq, String.reduceEq, decide_true, decide_false, beq_self_eq_true, gput_ne wn2_mv2, gput_ne wn2_mv, gput_ne wn2_dd, hwn6, cast1, ix_two dd2 hq1, gput_ne d2_mv2, gput_ne d2_mv, gput_ne d2_dd, q6]
          obtain ⟨d, hd⟩ := Option.isSome_iff_exists.mp ((mms j).mp hj)
          have hd' : dget kM2 (.int (j : Nat)) = some d := by rw [dM2.at_]; exact hd
          refine ite2 (fun e => ?_) fun e => r0 (by simpa using e)
          simp only [dVar, dC, dTup, dCons, dNil, dMat, dOp, dTest, dAnd, dOr, dNot, dAndV, dOrV, dNotV, dIf, dChain, asB, slot, wipe2, dSeq, dNext, dSet, dRet, dRetN, dDrop, dIfS, dBreak, dCont, dNever, dgName, dgNil, dgCons, dgTup, dAsg, dPar, dAug, dCall, dMeth, tyG, dIsi, isB, dLenQ, dTupQ, dAny, dAll, dMaxL, dLc, dDc, dMatD, dNil0, dYes, pdCopyG, plKeysG, dAugS, sSet, sPut, dSorSetT, dLenSet, oNo, oYes, dSlL, dSlT, dRepL, dIxL, dTpl, fE, qE, dLRng, dRevT, dNeg, iE, iL, iR1, iR2, iK, iEn, dFor, dLock, oAdd, oSub, oMul, oDiv, oMod, oLt, oLe, oGt, oGe, oEq, oNe, oIn, oNotIn, oIx, oIs, oIsNot, oI, SD.isNon, inB, ixB, ixC, eqB_int, eqB_bl, eqB_str, at_nat, atI_0, atI_1, atI_2, atI_3, atI_4, ixN_0, ixN_1, ixN_2, ixN_3, ixN_4, KeyC, lenB, SD.rLen, rInt, rMax2, mAppend, mExtend, mPop, mIndex, mIndexT, mUpdate, intsD, intsOf, bools, List.set_cons_zero, List.set_cons_succ, List.length_cons, List.length_nil, Bool.not_true, Bool.not_false, if_true, if_false, Bool.false_eq_true, true_and, and_true, Option.bind_some, List.getElem?_cons_succ, List.getElem?_cons_zero, decide_eq_true_eq, Bool.not_eq_true, gput_same, gput_gput, Option.map_some, ↓reduceIte, ite_true, String.reduceBEq, String.reduceEq, decide_true, decide_false, beq_self_eq_true, hd']
          have := r1 e
          rw [hd] at this; exact this
        intro p1 hp1
        obtain ⟨G7, hG7⟩ : ∃ G7, G7 = gput (gput G6 (dd (1 - p)) (.dic false false (dmerge (kW (1 - p)) kA))) mv (.dic false false (dmerge kM kLo)) := ⟨_, rfl⟩
        rw [← hG7] at hp1 ⊢
        have e7m : G7 mv = some (.dic false false (dmerge kM kLo)) := by rw [hG7, gput_same]
        have e7 : ∀ a, a ≠ dd (1 - p) → a ≠ mv → G7 a = G6 a := fun a h1 h2 => by rw [hG7, gput_ne h2, gput_ne h1]
        have e7d : G7 (dd (1 - p)) = some (.dic false false (dmerge (kW (1 - p)) kA)) := by rw [hG7, gput_ne ddm1, gput_same]
        have e7m2 : G7 mv2 = some (.dic false false kM2) := by rw [e7 mv2 n4'.symm n8.symm]; exact m6
        have p1m2 : p1 ≠ mv2 := fun z => by rw [z, gput_same] at hp1; cases hp1
        rw [gput_ne p1m2] at hp1
        have ne1 : ∀ {a : Addr} {mo : MO}, G7 a = some mo → a ≠ p1 := fun {a mo} e z => by rw [z, hp1] at e; cases e
        have mv_p1 := ne1 e7m
        have e7n : G7 nw = some (.dic false false kN) := by rw [e7 nw (hnd _) hnm]; exact H6.n_
        have nw_p1 := ne1 e7n
        have lenC := dC'.len
        have dMl := dM.merge dLo
        have lenMl := dMl.len
        have nw_mv2 : nw ≠ mv2 := n12
        simp only [dVar, dC, dTup, dCons, dNil, dMat, dOp, dTest, dAnd, dOr, dNot, dAndV, dOrV, dNotV, dIf, dChain, asB, slot, wipe2, dSeq, dNext, dSet, dRet, dRetN, dDrop, dIfS, dBreak, dCont, dNever, dgName, dgNil, dgCons, dgTup, dAsg, dPar, dAug, dCall, dMeth, tyG, dIsi, isB, dLenQ, dTupQ, dAny, dAll, dMaxL, dLc, dDc, dMatD, dNil0, dYes, pdCopyG, plKeysG, dAugS, sSet, sPut, dSorSetT, dLenSet, oNo, oYes, dSlL, dSlT, dRepL, dIxL, dTpl, fE, qE, dLRng, dRevT, dNeg, iE, iL, iR1, iR2, iK, iEn, dFor, dLock, oAdd, oSub, oMul, oDiv, oMod, oLt, oLe, oGt, oGe, oEq, oNe, oIn, oNotIn, oIx, oIs, oIsNot, oI, SD.isNon, inB, ixB, ixC, eqB_int, eqB_bl, eqB_str, at_nat, atI_0, atI_1, atI_2, atI_3, atI_4, ixN_0, ixN_1, ixN_2, ixN_3, ixN_4, KeyC, lenB, SD.rLen, rInt, rMax2, mAppend, mExtend, mPop, mIndex, mIndexT, mUpdate, intsD, intsOf, bools, List.set_cons_zero, List.set_cons_succ, List.length_cons, List.length_nil, Bool.not_true, Bool.not_false, if_true, if_false, Bool.false_eq_true, true_and, and_true, Option.bind_some, List.getElem?_cons_succ, List.getElem?_cons_zero, decide_eq_true_eq, Bool.not_eq_true, gput_same, gput_gput, Option.map_some, ↓reduceIte, ite_true, String.reduceBEq, String.reduceEq, decide_true, decide_false, beq_self_eq_true, gput_ne mv_p1, gput_ne n8, e7m, gput_ne n8.symm, gput_ne p1m2.symm, gput_ne nw_p1, gput_ne hnm, gput_ne nw_mv2, e7n]
        refine ⟨mv_p1, by omega, by rw [List.length_map]; omega, ?_⟩
        obtain ⟨kM', hkM'⟩ : ∃ kM', kM' = dmerge (dmerge kM kLo) kC := ⟨_, rfl⟩
        have dM' := (dM.merge dLo).merge dC'
        rw [← hkM'] at dM' ⊢
        obtain ⟨G8, hG8⟩ : ∃ G8, G8 = gput (gput (gput (gput G7 mv2 (.dic true false kM2)) p1 (.dic false false kC)) mv (.dic false false kM')) mv2 (.dic false false kM2) := ⟨_, rfl⟩
        rw [← hG8]
        have e8m : G8 mv = some (.dic false false kM') := by rw [hG8, gput_ne n8, gput_same]
        have e8 : ∀ a, a ≠ mv → a ≠ p1 → G8 a = G7 a := fun a h1 h2 => by
          rw [hG8]
          by_cases e : a = mv2
          · rw [e, gput_same]; exact e7m2.symm
          · rw [gput_ne e, gput_ne h1, gput_ne h2, gput_ne e]
        have e8n : G8 nw = some (.dic false false kN) := by rw [e8 nw hnm nw_p1]; exact e7n
        have fa_mv : fa ≠ mv := f_mv.symm
        have fa_dd : fa ≠ dd (1 - p) := f_dd.symm
        have e7fa : G7 fa = some (.dic false false kA) := by rw [e7 fa fa_dd fa_mv]; exact hfa
        have e8fa : G8 fa = some (.dic false false kA) := by rw [e8 fa fa_mv (ne1 e7fa)]; exact e7fa
        have e8d : ∀ q, q < 2 → G8 (dd q) = some (.dic false false (if q = 1 - p then dmerge (kW (1 - p)) kA else kW q)) := fun q hq => by
          by_cases e : q = 1 - p
          · rw [if_pos e, e, e8 _ ddm1 (ne1 e7d)]; exact e7d
          · have hne : dd q ≠ dd (1 - p) := fun z => by
              have hqp : q = p := by omega
              rw [hqp] at z
              rcases dds p hp2 with h | h
              · rw [h] at z; exact d01 z
              · rw [h] at z; exact d01 z.symm
            have e7q : G7 (dd q) = some (.dic false false (kW q)) := by rw [e7 _ hne (ddm q)]; exact H6.d_ q hq
            rw [if_neg e, e8 _ (ddm q) (ne1 e7q)]; exact e7q
        have hwnd : ∀ q, wn ≠ dd q := fun q => by
          show wn ≠ if q = 0 then a0 else a1
          split
          · exact hw0
          · exact hw1
        have e7wn : G7 wn = some (.lst false [.ref (dd 0), .ref (dd 1)]) := by rw [e7 wn (hwnd _) hmw.symm]; exact H6.wn_
        have e8wn : G8 wn = some (.lst false [.ref (dd 0), .ref (dd 1)]) := by rw [e8 wn hmw.symm (ne1 e7wn)]; exact e7wn
        have s8 : SD.sub G G8 := fun c n e => by
          have h1 : c ≠ dd (1 - p) := fun z => by rw [z, ddn] at e; cases e
          have h2 : c ≠ mv := fun z => by rw [z, hmv] at e; cases e
          have h3 : G7 c = some n := by rw [e7 c h1 h2]; exact H6.s_ _ _ e
          rw [e8 c h2 (ne1 h3)]; exact h3
        rw [hns]
        refine dc_set nns lns (fun k => ¬ far k) trivial (fun j hj R1 R0 r1 r0 => ?_) fun kN2 sN2 => ?_
        · simp only [dVar, dC, dTup, dCons, dNil, dMat, dOp, dTest, dAnd, dOr, dNot, dAndV, dOrV, dNotV, dIf, dChain, asB, slot, wipe2, dSeq, dNext, dSet, dRet, dRetN, dDrop, dIfS, dBreak, dCont, dNever, dgName, dgNil, dgCons, dgTup, dAsg, dPar, dAug, dCall, dMeth, tyG, dIsi, isB, dLenQ, dTupQ, dAny, dAll, dMaxL, dLc, dDc, dMatD, dNil0, dYes, pdCopyG, plKeysG, dAugS, sSet, sPut, dSorSetT, dLenSet, oNo, oYes, dSlL, dSlT, dRepL, dIxL, dTpl, fE, qE, dLRng, dRevT, dNeg, iE, iL, iR1, iR2, iK, iEn, dFor, dLock, oAdd, oSub, oMul, oDiv, oMod, oLt, oLe, oGt, oGe, oEq, oNe, oIn, oNotIn, oIx, oIs, oIsNot, oI, SD.isNon, inB, ixB, ixC, eqB_int, eqB_bl, eqB_str, at_nat, atI_0, atI_1, atI_2, atI_3, atI_4, ixN_0, ixN_1, ixN_2, ixN_3, ixN_4, KeyC, lenB, SD.rLen, rInt, rMax2, mAppend, mExtend, mPop, mIndex, mIndexT, mUpdate, intsD, intsOf, bools, List.set_cons_zero, List.set_cons_succ, List.length_cons, List.length_nil, Bool.not_true, Bool.not_false, if_true, if_false, Bool.false_eq_true, true_and, and_true, Option.bind_some, List.getElem?_cons_succ, List.getElem?_cons_zero, decide_eq_true_eq, Bool.not_eq_true, gput_same, gput_gput, Option.map_some, ↓reduceIte, ite_true, String.reduceBEq, String.reduceEq, decide_true, decide_false, beq_self_eq_true, gput_ne f_nw.symm, e8fa]
          have := sA.mem j
          by_cases h : far j
          · rw [this.mpr h]; exact r0 fun z => z h
          · have e : (dget kA (.int (j : Nat))).isSome = false := by
              cases q : (dget kA (.int (j : Nat))).isSome
              · rfl
              · exact absurd (this.mp q) h
            rw [e]; exact r1 h
        intro p2 hp2'
        have p2n : p2 ≠ nw := fun z => by rw [z, gput_same] at hp2'; cases hp2'
        rw [gput_ne p2n] at hp2'
        refine ⟨by rw [gput_ne p2n.symm, gput_same], ?_⟩
        rw [gput_unlock e8n p2n]
        have ne2 : ∀ {a : Addr} {mo : MO}, G8 a = some mo → a ≠ p2 := fun {a mo} e z => by rw [z, hp2'] at e; cases e
        have sN2' : SetN gm.length kN2 fun k => N k ∧ ¬ far k := sN2.iff fun k => by rw [nN]
        have hpq : p ≠ 1 - p := by omega
        let f' : Nat → Nat := fun k => @ite _ (N k) (Classical.propDecidable _) (@ite _ (W2 (1 - p) k) (Classical.propDecidable _) (f2 k) (lm k)) (f k)
        have f'1 : ∀ k, W2 (1 - p) k → f' k = f2 k := fun k h1 => (if_pos ((c2 (1 - p) hq1).sub k h1).1).trans (if_pos h1)
        have f'2 : ∀ k, far k → ¬ W2 (1 - p) k → f' k = lm k := fun k h1 h2 => (if_pos (at2.sub k h1)).trans (if_neg h2)
        have f'0 : ∀ k, ¬ N k → f' k = f k := fun k h1 => if_neg h1
        have cF : Cert (gmOf gm) N (1 - p) far f' := win_far hpq (fun k hk => by have := two k (PP.sub k hk); omega) at_ (c2 (1 - p) hq1) at2 (fun k h _ => f'1 k h) fun k h1 h2 _ => f'2 k h1 h2
        have PP' := PP.far (f' := f') hq1 cF (fun k h1 h2 ho => (at2.closed k h1 h2).1 ho) (at2.total PP.tot) (fun k r hr hk => f'0 k fun h => PP.apart k r hr h hk) fun _ _ _ => rfl
        have inW : ∀ k : Nat, (dget (kW2 (1 - p)) (.int k)).isSome = true ↔ W2 (1 - p) k := fun k => (sW2 (1 - p) hq1).mem k
        have wfar : ∀ k, W2 (1 - p) k → far k := at2.has
        have small : kN2.length < kN.length := by
          obtain ⟨f9, d9, e9⟩ := sN2'
          obtain ⟨k9, e9', nk9, m9, l9⟩ := d9.keys
          obtain ⟨x, hx⟩ : ∃ x, W2 (1 - p) x := by
            obtain ⟨f8, d8, e8'⟩ := sW2 (1 - p) hq1
            obtain ⟨k8, e8'', _, m8, _⟩ := d8.keys
            have hl8 : k8.length = (kW2 (1 - p)).length := by have := congrArg List.length e8''; simp at this; exact this.symm
            have : 0 < k8.length := by omega
            obtain ⟨x, hx⟩ := List.exists_mem_of_length_pos this
            exact ⟨x, (e8' x).mp ((m8 x).mp hx)⟩
          have hxn : x ∈ ns := (nN x).mpr (at2.sub x (wfar x hx))
          have h1 := nodup_le nk9 (b := ns.erase x) fun y hy => by
            have := (e9 y).mp ((m9 y).mp hy)
            have hne : y ≠ x := fun e => this.2 (e ▸ wfar x hx)
            exact (List.mem_erase_of_ne hne).mpr ((nN y).mpr this.1)
          have h2 := List.length_erase_of_mem hxn
          have h3 : 0 < ns.length := List.length_pos_of_mem hxn
          have h4 := congrArg List.length e9'
          simp at h4
          omega
        refine hnx kN2.length small _ _ ⟨p2, fun k => N k ∧ ¬ far k, fun r k => W r k ∨ (r = 1 - p ∧ far k), fun q => if q = 1 - p then dmerge (kW (1 - p)) kA else kW q, kM', kN2, _, f', _, _, _, _, _, _, _, _, _, _, _, rfl,
          ⟨by rw [gput_ne (ne2 e8wn)]; exact e8wn, fun q hq => by rw [gput_ne (ne2 (e8d q hq))]; exact e8d q hq, by rw [gput_ne (ne2 e8m)]; exact e8m, gput_same, fun c n e => by rw [gput_ne (ne2 (s8 _ _ e))]; exact s8 _ _ e⟩, fun q => ?_, (ne2 e8m).symm, sN2', fun q hq => ?_, dM', fun k hk => ?_, fun k q hq hk ho => ?_, PP', rfl⟩
        · rcases (show dd q = dd 0 ∨ dd q = dd 1 by
            by_cases h : q = 0
            · left; rw [h]
            · right; show (if q = 0 then a0 else a1) = a1; rw [if_neg h]) with h | h
          · rw [h]; exact (ne2 (e8d 0 (by decide))).symm
          · rw [h]; exact (ne2 (e8d 1 (by decide))).symm
        · dsimp only
          by_cases e : q = 1 - p
          · rw [if_pos e]
            exact ((sW (1 - p) hq1).merge sA).iff fun k => by rw [e]; simp
          · rw [if_neg e]
            exact (sW q hq).iff fun k => by simp [e]
        · by_cases h : k ∈ ms ∧ (dget (kW2 (1 - p)) (.int (k : Nat))).isSome = true
          · have := (inW k).mp h.2
            exact ⟨PP.sub k ((c2 (1 - p) hq1).sub k this).1, fun z => z.2 (wfar k this)⟩
          · rw [if_neg h, Option.none_or] at hk
            by_cases hl : far k ∧ ¬ W2 (1 - p) k ∧ (gmOf gm).own k = 1 - p
            · exact ⟨PP.sub k (at2.sub k hl.1), fun z => z.2 hl.1⟩
            · rw [eLo0 k hl, Option.none_or] at hk
              obtain ⟨a, b⟩ := eM0 k hk
              exact ⟨a, fun z => b z.1⟩
        · rcases hk with hk | ⟨rfl, hk⟩
          · have hNk : ¬ N k := fun h => PP.apart k q hq h hk
            have h1 : ¬ (k ∈ ms ∧ (dget (kW2 (1 - p)) (.int (k : Nat))).isSome = true) := fun h => hNk ((c2 (1 - p) hq1).sub k ((inW k).mp h.2)).1
            rw [f'0 k hNk, if_neg h1, Option.none_or, eLo0 k fun h => hNk (at2.sub k h.1), Option.none_or]
            exact eM1 k q hq hk ho
          · by_cases h : W2 (1 - p) k
            · have e12 := eM12 k (1 - p) hq1 h ho
              have hms : k ∈ ms := (mms k).mpr (by rw [e12]; rfl)
              rw [if_pos ⟨hms, (inW k).mpr h⟩, e12, f'1 k h]; rfl
            · rw [if_neg fun z => h ((inW k).mp z.2), Option.none_or, eLo1 k ⟨hk, h, ho⟩, f'2 k hk h]; rfl
  · have hN : ∀ k, ¬ N k := fun k hk => by
      have : kN = [] := by
        cases kN with
        | nil => rfl
        | cons x r => exact absurd (show (0 : Int) < ((x :: r).length : Nat) by simp) hpos
      have h1 := (eN k).mpr hk
      rw [← dN.at_, this, dget_nil] at h1
      simp at h1
    exact .now .refl (q wn mv dd kW kM W fm f G' PP.cert (fun k hk => (PP.cov k hk).resolve_left (hN k)) sW dM (fun k hk => (eM0 k hk).1) eM1 H.wn_ H.d_ H.m_ H.s_ hwn hmv (fun q _ => ddn q) d01 fun q _ => ddm q)
end K43

set_option Elab.async false
set_option linter.all false
set_option maxRecDepth 100000
set_option maxHeartbeats 4000000
namespace K43
open PySem PySem.Spec PyProof.Rows L2 SD
theorem rngD0 (n : Nat) : rngD 0 n = (List.range n).map fun (k : Nat) => D.int k := by
  unfold rngD
  exact List.map_congr_left fun k _ => by rw [Int.zero_add]
/-- who wins where, by which moves -/
structure Sol (gm : List Spot) (w f : Nat → Nat) : Prop where
  two : ∀ k, w k < 2
  cert : ∀ q, q < 2 → Cert (gmOf gm) (fun k => k < gm.length) q (fun k => k < gm.length ∧ w k = q) f
def winD (gm : List Spot) (w : Nat → Nat) : D := .tup (intsD' ((List.range gm.length).map w))
def rowD (gm : List Spot) (w f : Nat → Nat) (k : Nat) : D := if (gmOf gm).own k = w k then .int (f k) else .non
def rowsD (gm : List Spot) (w f : Nat → Nat) : D := .tup ((List.range gm.length).map (rowD gm w f))
theorem w_solved {k L : Nat} {gm : List Spot} (ok : GmOk gm) (hL : ∀ s ∈ gm, s.2.1 < L) (hk : L + 4 ≤ k) {G : Gp} {Q : VK2} (q : ∀ w f, Sol gm w f → Q (.tup [winD gm w, rowsD gm w f]) G) : WF T k i_solved_game [gameD gm] G Q := by
  obtain ⟨k, rfl⟩ : ∃ j, k = j + 3 := ⟨k - 3, by omega⟩
  refine run rfl ?_
  show b_solved_game (WF T (k + 2)) _ [some (gameD gm), none, none, none, none, none] G
  unfold b_solved_game
  have hsl : sizeLine = 16777216 := sizeLine_eq
  have most := ok.most
  have hn1 : ((gm.map spotD).length : Int).toNat = gm.length := by rw [List.length_map]; omega
  have own2 : ∀ k, k < gm.length → (gmOf gm).own k < 2 := fun k hk => by
    obtain ⟨sp, hsp, ho, _⟩ := gm_at hk
    rw [ho]; exact ok.two _ _ hsp
  have tot : Total (gmOf gm) fun k => k < gm.length := fun k hk => by
    obtain ⟨sp, hsp, _, _, hE⟩ := gm_at hk
    cases e : sp.2.2 with
    | nil => exact absurd e (ok.some_ _ _ hsp)
    | cons x r => exact ⟨x, by rw [hE, e]; exact List.mem_cons_self, ok.in_ _ _ hsp x (by rw [e]; exact List.mem_cons_self)⟩
  refine seq_i ?_
  simp only [dVar, dC, dTup, dCons, dNil, dMat, dOp, dTest, dAnd, dOr, dNot, dAndV, dOrV, dNotV, dIf, dChain, asB, slot, wipe2, dSeq, dNext, dSet, dRet, dRetN, dDrop, dIfS, dBreak, dCont, dNever, dgName, dgNil, dgCons, dgTup, dAsg, dPar, dAug, dCall, dMeth, tyG, dIsi, isB, dLenQ, dTupQ, dAny, dAll, dMaxL, dLc, dDc, dMatD, dNil0, dYes, pdCopyG, plKeysG, dAugS, sSet, sPut, dSorSetT, dLenSet, oNo, oYes, dSlL, dSlT, dRepL, dIxL, dTpl, fE, qE, dLRng, dRevT, dNeg, iE, iL, iR1, iR2, iK, iEn, dFor, dLock, oAdd, oSub, oMul, oDiv, oMod, oLt, oLe, oGt, oGe, oEq, oNe, oIn, oNotIn, oIx, oIs, oIsNot, oI, SD.isNon, inB, ixB, ixC, eqB_int, eqB_bl, eqB_str, at_nat, atI_0, atI_1, atI_2, atI_3, atI_4, ixN_0, ixN_1, ixN_2, ixN_3, ixN_4, KeyC, lenB, SD.rLen, rInt, rMax2, mAppend, mExtend, mPop, mIndex, mIndexT, mUpdate, intsD, intsOf, bools, List.set_cons_zero, List.set_cons_succ, List.length_cons, List.length_nil, Bool.not_true, Bool.not_false, if_true, if_false, Bool.false_eq_true, true_and, and_true, Option.bind_some, List.getElem?_cons_succ, List.getElem?_cons_zero, decide_eq_true_eq, Bool.not_eq_true, gput_same, gput_gput, Option.map_some, ↓reduceIte, ite_true, String.reduceBEq, String.reduceEq, decide_true, decide_false, beq_self_eq_true]
  refine w_before ok fun b G1 hb s1 hb0 => ?_
  unfold gameD
  simp only [dVar, dC, dTup, dCons, dNil, dMat, dOp, dTest, dAnd, dOr, dNot, dAndV, dOrV, dNotV, dIf, dChain, asB, slot, wipe2, dSeq, dNext, dSet, dRet, dRetN, dDrop, dIfS, dBreak, dCont, dNever, dgName, dgNil, dgCons, dgTup, dAsg, dPar, dAug, dCall, dMeth, tyG, dIsi, isB, dLenQ, dTupQ, dAny, dAll, dMaxL, dLc, dDc, dMatD, dNil0, dYes, pdCopyG, plKeysG, dAugS, sSet, sPut, dSorSetT, dLenSet, oNo, oYes, dSlL, dSlT, dRepL, dIxL, dTpl, fE, qE, dLRng, dRevT, dNeg, iE, iL, iR1, iR2, iK, iEn, dFor, dLock, oAdd, oSub, oMul, oDiv, oMod, oLt, oLe, oGt, oGe, oEq, oNe, oIn, oNotIn, oIx, oIs, oIsNot, oI, SD.isNon, inB, ixB, ixC, eqB_int, eqB_bl, eqB_str, at_nat, atI_0, atI_1, atI_2, atI_3, atI_4, ixN_0, ixN_1, ixN_2, ixN_3, ixN_4, KeyC, lenB, SD.rLen, rInt, rMax2, mAppend, mExtend, mPop, mIndex, mIndexT, mUpdate, intsD, intsOf, bools, List.set_cons_zero, List.set_cons_succ, List.length_cons, List.length_nil, Bool.not_true, Bool.not_false, if_true, if_false, Bool.false_eq_true, true_and, and_true, Option.bind_some, List.getElem?_cons_succ, List.getElem?_cons_zero, decide_eq_true_eq, Bool.not_eq_true, gput_same, gput_gput, Option.map_some, ↓reduceIte, ite_true, String.reduceBEq, String.reduceEq, decide_true, decide_false, beq_self_eq_true]
  rw [hn1, rngD0]
  refine ⟨by rw [List.length_map]; omega, by simp; omega, ?_⟩
  refine dc_set List.nodup_range (fun k h => List.mem_range.mp h) (fun _ => True) trivial (fun j hj R1 R0 r1 r0 => ?_) fun kA sA => ?_
  · simp only [dVar, dC, dTup, dCons, dNil, dMat, dOp, dTest, dAnd, dOr, dNot, dAndV, dOrV, dNotV, dIf, dChain, asB, slot, wipe2, dSeq, dNext, dSet, dRet, dRetN, dDrop, dIfS, dBreak, dCont, dNever, dgName, dgNil, dgCons, dgTup, dAsg, dPar, dAug, dCall, dMeth, tyG, dIsi, isB, dLenQ, dTupQ, dAny, dAll, dMaxL, dLc, dDc, dMatD, dNil0, dYes, pdCopyG, plKeysG, dAugS, sSet, sPut, dSorSetT, dLenSet, oNo, oYes, dSlL, dSlT, dRepL, dIxL, dTpl, fE, qE, dLRng, dRevT, dNeg, iE, iL, iR1, iR2, iK, iEn, dFor, dLock, oAdd, oSub, oMul, oDiv, oMod, oLt, oLe, oGt, oGe, oEq, oNe, oIn, oNotIn, oIx, oIs, oIsNot, oI, SD.isNon, inB, ixB, ixC, eqB_int, eqB_bl, eqB_str, at_nat, atI_0, atI_1, atI_2, atI_3, atI_4, ixN_0, ixN_1, ixN_2, ixN_3, ixN_4, KeyC, lenB, SD.rLen, rInt, rMax2, mAppend, mExtend, mPop, mIndex, mIndexT, mUpdate, intsD, intsOf, bools, List.set_cons_zero, List.set_cons_succ, List.length_cons, List.length_nil, Bool.not_true, Bool.not_false, if_true, if_false, Bool.false_eq_true, true_and, and_true, Option.bind_some, List.getElem?_cons_succ, List.getElem?_cons_zero, decide_eq_true_eq, Bool.not_eq_true, gput_same, gput_gput, Option.map_some, ↓reduceIte, ite_true, String.reduceBEq, String.reduceEq, decide_true, decide_false, beq_self_eq_true]
    exact r1 trivial
  intro a ha
  have sA' : SetN gm.length kA fun k => k < gm.length := sA.iff fun k => by simp
  refine w_parts L (k + 2) ok (S := fun k => k < gm.length) (hb.sub (SD.sub.refl.upd ha)) gput_same sA' tot (fun k hk => ?_) (by omega) ?_
  · obtain ⟨sp, hsp, _, hl, _⟩ := gm_at hk
    rw [hl]; exact hL sp (List.mem_of_getElem? hsp)
  intro wn mv dd kW kM W fm f G2 c cov sW dM eM0 eM1 hwn hd hm hs _ _ _ _ _
  let w : Nat → Nat := fun k => @ite _ (W 0 k) (Classical.propDecidable _) 0 1
  have w0 : ∀ k, W 0 k → w k = 0 := fun k h => if_pos h
  have w1 : ∀ k, ¬ W 0 k → w k = 1 := fun k h => if_neg h
  have wW : ∀ k q, k < gm.length → q < 2 → (W q k ↔ k < gm.length ∧ w k = q) := fun k q hk hq => by
    have dis : ¬ (W 0 k ∧ W 1 k) := fun h => (c 0 (by decide)).disjoint own2 (c 1 (by decide)) k h.1 h.2
    rcases (show q = 0 ∨ q = 1 by omega) with rfl | rfl
    · constructor
      · intro h; exact ⟨hk, w0 k h⟩
      · rintro ⟨_, h⟩
        apply Classical.byContradiction
        intro z; rw [w1 k z] at h; cases h
    · constructor
      · intro h; exact ⟨hk, w1 k fun z => dis ⟨z, h⟩⟩
      · rintro ⟨_, h⟩
        refine (cov k hk).resolve_left fun z => ?_
        rw [w0 k z] at h; cases h
  have sol : Sol gm w f := ⟨fun k => by
    by_cases h : W 0 k
    · rw [w0 k h]; decide
    · rw [w1 k h]; decide, fun q hq => (c q hq).iff (fun _ => Iff.rfl) fun k => by
    by_cases hk : k < gm.length
    · exact wW k q hk hq
    · exact ⟨fun h => absurd ((c q hq).sub k h) hk, fun h => absurd h.1 hk⟩⟩
  simp only [dVar, dC, dTup, dCons, dNil, dMat, dOp, dTest, dAnd, dOr, dNot, dAndV, dOrV, dNotV, dIf, dChain, asB, slot, wipe2, dSeq, dNext, dSet, dRet, dRetN, dDrop, dIfS, dBreak, dCont, dNever, dgName, dgNil, dgCons, dgTup, dAsg, dPar, dAug, dCall, dMeth, tyG, dIsi, isB, dLenQ, dTupQ, dAny, dAll, dMaxL, dLc, dDc, dMatD, dNil0, dYes, pdCopyG, plKeysG, dAugS, sSet, sPut, dSorSetT, dLenSet, oNo, oYes, dSlL, dSlT, dRepL, dIxL, dTpl, fE, qE, dLRng, dRevT, dNeg, iE, iL, iR1, iR2, iK, iEn, dFor, dLock, oAdd, oSub, oMul, oDiv, oMod, oLt, oLe, oGt, oGe, oEq, oNe, oIn, oNotIn, oIx, oIs, oIsNot, oI, SD.isNon, inB, ixB, ixC, eqB_int, eqB_bl, eqB_str, at_nat, atI_0, atI_1, atI_2, atI_3, atI_4, ixN_0, ixN_1, ixN_2, ixN_3, ixN_4, KeyC, lenB, SD.rLen, rInt, rMax2, mAppend, mExtend, mPop, mIndex, mIndexT, mUpdate, intsD, intsOf, bools, List.set_cons_zero, List.set_cons_succ, List.length_cons, List.length_nil, Bool.not_true, Bool.not_false, if_true, if_false, Bool.false_eq_true, true_and, and_true, Option.bind_some, List.getElem?_cons_succ, List.getElem?_cons_zero, decide_eq_true_eq, Bool.not_eq_true, gput_same, gput_gput, Option.map_some, ↓reduceIte, ite_true, String.reduceBEq, String.reduceEq, decide_true, decide_false, beq_self_eq_true]
  refine ⟨by rw [List.length_map]; omega, by simp; omega, ?_⟩
  refine lc_pure (fun d => match d with | .int i => some (.int (w i.toNat)) | _ => none) trivial _ [] (fun x hx R1 R0 r => ?_) ?_
  · obtain ⟨j, hj, rfl⟩ := List.mem_map.mp hx
    simp only [dVar, dC, dTup, dCons, dNil, dMat, dOp, dTest, dAnd, dOr, dNot, dAndV, dOrV, dNotV, dIf, dChain, asB, slot, wipe2, dSeq, dNext, dSet, dRet, dRetN, dDrop, dIfS, dBreak, dCont, dNever, dgName, dgNil, dgCons, dgTup, dAsg, dPar, dAug, dCall, dMeth, tyG, dIsi, isB, dLenQ, dTupQ, dAny, dAll, dMaxL, dLc, dDc, dMatD, dNil0, dYes, pdCopyG, plKeysG, dAugS, sSet, sPut, dSorSetT, dLenSet, oNo, oYes, dSlL, dSlT, dRepL, dIxL, dTpl, fE, qE, dLRng, dRevT, dNeg, iE, iL, iR1, iR2, iK, iEn, dFor, dLock, oAdd, oSub, oMul, oDiv, oMod, oLt, oLe, oGt, oGe, oEq, oNe, oIn, oNotIn, oIx, oIs, oIsNot, oI, SD.isNon, inB, ixB, ixC, eqB_int, eqB_bl, eqB_str, at_nat, atI_0, atI_1, atI_2, atI_3, atI_4, ixN_0, ixN_1, ixN_2, ixN_3, ixN_4, KeyC, lenB, SD.rLen, rInt, rMax2, mAppend, mExtend, mPop, mIndex, mIndexT, mUpdate, intsD, intsOf, bools, List.set_cons_zero, List.set_cons_succ, List.length_cons, List.length_nil, Bool.not_true, Bool.not_false, if_true, if_false, Bool.false_eq_true, true_and, and_true, Option.bind_some, List.getElem?_cons_succ, List.getElem?_cons_zero, decide_eq_true_eq, Bool.not_eq_true, gput_same, gput_gput, Option.map_some, ↓reduceIte, ite_true, String.reduceBEq, String.reduceEq, decide_true, decide_false, beq_self_eq_true, hwn, hd 0 (by decide)]
    have hm0 := (sW 0 (by decide)).mem j
    simp only [Int.toNat_natCast] at r
    by_cases h : W 0 j
    · rw [w0 j h] at r
      rw [hm0.mpr h, if_pos rfl]; exact r
    · rw [w1 j h] at r
      have e : (dget (kW 0) (.int (j : Nat))).isSome = false := by
        cases q : (dget (kW 0) (.int (j : Nat))).isSome
        · rfl
        · exact absurd (hm0.mp q) h
      rw [e, if_neg (by decide)]; exact r
  · have e1 : ([] : List D) ++ ((List.range gm.length).map fun (k : Nat) => D.int k).filterMap (fun d => match d with | .int i => some (.int (w i.toNat)) | _ => none) = intsD' ((List.range gm.length).map w) := by
      rw [List.nil_append]
      have key : ∀ l : List Nat, (l.map fun (k : Nat) => D.int k).filterMap (fun d => match d with | .int i => some (.int (w i.toNat)) | _ => none) = intsD' (l.map w) := by
        intro l
        induction l with
        | nil => rfl
        | cons x r ih =>
          rw [List.map_cons, List.filterMap_cons]
          simp only [Int.toNat_natCast]
          rw [ih]; rfl
      exact key _
    rw [e1]
    intro p hp
    refine ⟨by rw [List.length_map]; omega, ?_⟩
    rw [← rngD0]
    refine for_inv (ds := rngD 0 gm.length) (fun pre δ G' => ∃ x1, δ = [some (.tup (gm.map spotD)), x1, some (.ref wn), some (.ref mv), some (winD gm w), some (.ref p)] ∧ G' p = some (.lst false ((List.range pre.length).map (rowD gm w f))) ∧ ∀ a, a ≠ p → G' a = G2 a) ?_ ?_ _ [] _ _ rfl
      ⟨_, rfl, gput_same, fun a ha => gput_ne ha⟩
    · rintro pre x post δ G' e ⟨x1, rfl, hp', hfr⟩
      refine ⟨trivial, fun nx hx => ?_⟩
      obtain ⟨hi, rfl⟩ := rngD_mem e
      obtain ⟨sp, hsp, hown, _, _⟩ := gm_at hi
      rw [Int.zero_add]
      have hmp : mv ≠ p := fun z => by rw [z, hp] at hm; cases hm
      have hw : (intsD' ((List.range gm.length).map w))[pre.length]? = some (.int (w pre.length)) := by simp [intsD', hi]
      have hlen : ((List.range pre.length).map (rowD gm w f)).length < sizeLine := by simp; omega
      have step : ∀ x : D, (List.range pre.length).map (rowD gm w f) ++ [rowD gm w f pre.length] = (List.range (pre ++ [x]).length).map (rowD gm w f) := fun x => by
        rw [List.length_append, List.length_singleton, List.range_succ, List.map_append]; rfl
      unfold winD
      simp only [dVar, dC, dTup, dCons, dNil, dMat, dOp, dTest, dAnd, dOr, dNot, dAndV, dOrV, dNotV, dIf, dChain, asB, slot, wipe2, dSeq, dNext, dSet, dRet, dRetN, dDrop, dIfS, dBreak, dCont, dNever, dgName, dgNil, dgCons, dgTup, dAsg, dPar, dAug, dCall, dMeth, tyG, dIsi, isB, dLenQ, dTupQ, dAny, dAll, dMaxL, dLc, dDc, dMatD, dNil0, dYes, pdCopyG, plKeysG, dAugS, sSet, sPut, dSorSetT, dLenSet, oNo, oYes, dSlL, dSlT, dRepL, dIxL, dTpl, fE, qE, dLRng, dRevT, dNeg, iE, iL, iR1, iR2, iK, iEn, dFor, dLock, oAdd, oSub, oMul, oDiv, oMod, oLt, oLe, oGt, oGe, oEq, oNe, oIn, oNotIn, oIx, oIs, oIsNot, oI, SD.isNon, inB, ixB, ixC, eqB_int, eqB_bl, eqB_str, at_nat, atI_0, atI_1, atI_2, atI_3, atI_4, ixN_0, ixN_1, ixN_2, ixN_3, ixN_4, KeyC, lenB, SD.rLen, rInt, rMax2, mAppend, mExtend, mPop, mIndex, mIndexT, mUpdate, intsD, intsOf, bools, List.set_cons_zero, List.set_cons_succ, List.length_cons, List.length_nil, Bool.not_true, Bool.not_false, if_true, if_false, Bool.false_eq_true, true_and, and_true, Option.bind_some, List.getElem?_cons_succ, List.getElem?_cons_zero, decide_eq_true_eq, Bool.not_eq_true, gput_same, gput_gput, Option.map_some, ↓reduceIte, ite_true, String.reduceBEq, String.reduceEq, decide_true, decide_false, beq_self_eq_true, List.getElem?_map, hsp, spotD, hw, hp']
      by_cases ho : (gmOf gm).own pre.length = w pre.length
      · have e1 : ((sp.1 : Int) = (w pre.length : Int)) = True := eq_true (by rw [← ho, hown])
        have hfm := eM1 pre.length (w pre.length) (sol.two _) ((wW _ _ hi (sol.two _)).mpr ⟨hi, rfl⟩) ho
        have hg : dget kM (.int (pre.length : Nat)) = some (.int (f pre.length)) := by rw [dM.at_]; exact hfm
        have hm' : G' mv = some (.dic false false kM) := by rw [hfr mv hmp]; exact hm
        simp only [dVar, dC, dTup, dCons, dNil, dMat, dOp, dTest, dAnd, dOr, dNot, dAndV, dOrV, dNotV, dIf, dChain, asB, slot, wipe2, dSeq, dNext, dSet, dRet, dRetN, dDrop, dIfS, dBreak, dCont, dNever, dgName, dgNil, dgCons, dgTup, dAsg, dPar, dAug, dCall, dMeth, tyG, dIsi, isB, dLenQ, dTupQ, dAny, dAll, dMaxL, dLc, dDc, dMatD, dNil0, dYes, pdCopyG, plKeysG, dAugS, sSet, sPut, dSorSetT, dLenSet, oNo, oYes, dSlL, dSlT, dRepL, dIxL, dTpl, fE, qE, dLRng, dRevT, dNeg, iE, iL, iR1, iR2, iK, iEn, dFor, dLock, oAdd, oSub, oMul, oDiv, oMod, oLt, oLe, oGt, oGe, oEq, oNe, oIn, oNotIn, oIx, oIs, oIsNot, oI, SD.isNon, inB, ixB, ixC, eqB_int, eqB_bl, eqB_str, at_nat, atI_0, atI_1, atI_2, atI_3, atI_4, ixN_0, ixN_1, ixN_2, ixN_3, ixN_4, KeyC, lenB, SD.rLen, rInt, rMax2, mAppend, mExtend, mPop, mIndex, mIndexT, mUpdate, intsD, intsOf, bools, List.set_cons_zero, List.set_cons_succ, List.length_cons, List.length_nil, Bool.not_true, Bool.not_false, if_true, if_false, Bool.false_eq_true, true_and, and_true, Option.bind_some, List.getElem?_cons_succ, List.getElem?_cons_zero, decide_eq_true_eq, Bool.not_eq_true, gput_same, gput_gput, Option.map_some, ↓reduceIte, ite_true, String.reduceBEq, String.reduceEq, decide_true, decide_false, beq_self_eq_true, e1, hm', hg, hp', hlen]
        refine hx _ _ ⟨_, rfl, ?_, fun a ha => by rw [gput_ne ha]; exact hfr a ha⟩
        rw [gput_same, ← step]
        have : rowD gm w f pre.length = .int (f pre.length) := if_pos ho
        rw [this]
      · have e1 : ((sp.1 : Int) = (w pre.length : Int)) = False := eq_false fun e => ho (by rw [hown]; omega)
        simp only [dVar, dC, dTup, dCons, dNil, dMat, dOp, dTest, dAnd, dOr, dNot, dAndV, dOrV, dNotV, dIf, dChain, asB, slot, wipe2, dSeq, dNext, dSet, dRet, dRetN, dDrop, dIfS, dBreak, dCont, dNever, dgName, dgNil, dgCons, dgTup, dAsg, dPar, dAug, dCall, dMeth, tyG, dIsi, isB, dLenQ, dTupQ, dAny, dAll, dMaxL, dLc, dDc, dMatD, dNil0, dYes, pdCopyG, plKeysG, dAugS, sSet, sPut, dSorSetT, dLenSet, oNo, oYes, dSlL, dSlT, dRepL, dIxL, dTpl, fE, qE, dLRng, dRevT, dNeg, iE, iL, iR1, iR2, iK, iEn, dFor, dLock, oAdd, oSub, oMul, oDiv, oMod, oLt, oLe, oGt, oGe, oEq, oNe, oIn, oNotIn, oIx, oIs, oIsNot, oI, SD.isNon, inB, ixB, ixC, eqB_int, eqB_bl, eqB_str, at_nat, atI_0, atI_1, atI_2, atI_3, atI_4, ixN_0, ixN_1, ixN_2, ixN_3, ixN_4, KeyC, lenB, SD.rLen, rInt, rMax2, mAppend, mExtend, mPop, mIndex, mIndexT, mUpdate, intsD, intsOf, bools, List.set_cons_zero, List.set_cons_succ, List.length_cons, List.length_nil, Bool.not_true, Bool.not_false, if_true, if_false, Bool.false_eq_true, true_and, and_true, Option.bind_some, List.getElem?_cons_succ, List.getElem?_cons_zero, decide_eq_true_eq, Bool.not_eq_true, gput_same, gput_gput, Option.map_some, ↓reduceIte, ite_true, String.reduceBEq, String.reduceEq, decide_true, decide_false, beq_self_eq_true, e1, hp', hlen]
        refine hx _ _ ⟨_, rfl, ?_, fun a ha => by rw [gput_ne ha]; exact hfr a ha⟩
        rw [gput_same, ← step]
        have : rowD gm w f pre.length = .non := if_neg ho
        rw [this]
    · rintro δ G' ⟨x1, rfl, hp', hfr⟩
      refine ⟨trivial, ?_⟩
      simp only [dVar, dC, dTup, dCons, dNil, dMat, dOp, dTest, dAnd, dOr, dNot, dAndV, dOrV, dNotV, dIf, dChain, asB, slot, wipe2, dSeq, dNext, dSet, dRet, dRetN, dDrop, dIfS, dBreak, dCont, dNever, dgName, dgNil, dgCons, dgTup, dAsg, dPar, dAug, dCall, dMeth, tyG, dIsi, isB, dLenQ, dTupQ, dAny, dAll, dMaxL, dLc, dDc, dMatD, dNil0, dYes, pdCopyG, plKeysG, dAugS, sSet, sPut, dSorSetT, dLenSet, oNo, oYes, dSlL, dSlT, dRepL, dIxL, dTpl, fE, qE, dLRng, dRevT, dNeg, iE, iL, iR1, iR2, iK, iEn, dFor, dLock, oAdd, oSub, oMul, oDiv, oMod, oLt, oLe, oGt, oGe, oEq, oNe, oIn, oNotIn, oIx, oIs, oIsNot, oI, SD.isNon, inB, ixB, ixC, eqB_int, eqB_bl, eqB_str, at_nat, atI_0, atI_1, atI_2, atI_3, atI_4, ixN_0, ixN_1, ixN_2, ixN_3, ixN_4, KeyC, lenB, SD.rLen, rInt, rMax2, mAppend, mExtend, mPop, mIndex, mIndexT, mUpdate, intsD, intsOf, bools, List.set_cons_zero, List.set_cons_succ, List.length_cons, List.length_nil, Bool.not_true, Bool.not_false, if_true, if_false, Bool.false_eq_true, true_and, and_true, Option.bind_some, List.getElem?_cons_succ, List.getElem?_cons_zero, decide_eq_true_eq, Bool.not_eq_true, gput_same, gput_gput, Option.map_some, ↓reduceIte, ite_true, String.reduceBEq, String.reduceEq, decide_true, decide_false, beq_self_eq_true, hp']
      have hrl : (rngD 0 gm.length).length = gm.length := by simp [rngD]
      rw [hrl]
      refine ⟨G, fun a m e => ?_, q w f sol⟩
      have e2 : G2 a = some m := hs _ _ (SD.sub.refl.upd ha _ _ (s1 _ _ e))
      rw [hfr a fun z => by rw [z, hp] at e2; cases e2]; exact e2
end K43

set_option Elab.async false
set_option linter.all false
set_option maxRecDepth 100000
set_option maxHeartbeats 4000000
namespace K43
open PySem PySem.Spec PyProof.Rows L2 SD
theorem w_whole {k : Nat} {i : Int} {G : Gp} {Q : VK2} (q : Q (.bl true) G) : WF T (k + 1) i_is_whole [.int i] G Q := by
  refine run rfl ?_
  show b_is_whole (WF T k) { nx := fun _ G' => endK Q .non G', rt := endK Q } [some (.int i)] G
  unfold b_is_whole
  simp only [dVar, dC, dTup, dCons, dNil, dMat, dOp, dTest, dAnd, dOr, dNot, dAndV, dOrV, dNotV, dIf, dChain, asB, slot, wipe2, dSeq, dNext, dSet, dRet, dRetN, dDrop, dIfS, dBreak, dCont, dNever, dgName, dgNil, dgCons, dgTup, dAsg, dPar, dAug, dCall, dMeth, tyG, dIsi, isB, dLenQ, dTupQ, dAny, dAll, dMaxL, dLc, dDc, dMatD, dNil0, dYes, pdCopyG, plKeysG, dAugS, sSet, sPut, dSorSetT, dLenSet, oNo, oYes, dSlL, dSlT, dRepL, dIxL, dTpl, fE, qE, dLRng, dRevT, dNeg, iE, iL, iR1, iR2, iK, iEn, dFor, dLock, oAdd, oSub, oMul, oDiv, oMod, oLt, oLe, oGt, oGe, oEq, oNe, oIn, oNotIn, oIx, oIs, oIsNot, oI, SD.isNon, inB, ixB, ixC, eqB_int, eqB_bl, eqB_str, at_nat, atI_0, atI_1, atI_2, atI_3, atI_4, ixN_0, ixN_1, ixN_2, ixN_3, ixN_4, KeyC, lenB, SD.rLen, rInt, rMax2, mAppend, mExtend, mPop, mIndex, mIndexT, mUpdate, intsD, intsOf, bools, List.set_cons_zero, List.set_cons_succ, List.length_cons, List.length_nil, Bool.not_true, Bool.not_false, if_true, if_false, Bool.false_eq_true, true_and, and_true, Option.bind_some, List.getElem?_cons_succ, List.getElem?_cons_zero, decide_eq_true_eq, Bool.not_eq_true, gput_same, gput_gput, Option.map_some, ↓reduceIte, ite_true, String.reduceBEq, String.reduceEq, decide_true, decide_false, beq_self_eq_true]
  exact .now .refl q
theorem all_true {α : Type} (l : List α) : bools (l.map fun _ => D.bl true) = some (l.map fun _ => true) := by
  induction l with
  | nil => rfl
  | cons x r ih => show (bools (r.map fun _ => D.bl true)).map (true :: ·) = _; rw [ih]; rfl
theorem lc_true {g : TG2} {tt : TT2} {te : TE2} {C : Gp → Prop} {δw : St2} {G : Gp} {Q : List D → Gp → Prop} (hC : C G) (ds : List D)
    (h : ∀ x ∈ ds, ∀ (R1 : D → Gp → Prop) (R0 : Gp → Prop), R1 (.bl true) G → g x δw G fun δ2 G2 => tt δ2 G2 fun c G3 => if c = true then te δ2 G3 R1 else R0 G3) (q : Q (ds.map fun _ => D.bl true) G) : lcW g tt te C δw Q ds [] G :=
  lc_pure (fun _ => some (.bl true)) hC ds [] (fun x hx R1 R0 r => h x hx R1 R0 r) (by
    have key : ∀ l : List D, l.filterMap (fun _ => some (D.bl true)) = l.map fun _ => D.bl true := by
      intro l
      induction l with
      | nil => rfl
      | cons x r ih => rw [List.filterMap_cons, List.map_cons, ih]
    rw [List.nil_append, key]; exact q)
theorem w_spot {k n : Nat} {s : Spot} (h2 : s.1 < 2) (hin : ∀ e ∈ s.2.2, e < n) (hne : s.2.2 ≠ []) (few : s.2.2.length < 64) {G : Gp} {Q : VK2} (q : Q (.bl true) G) : WF T (k + 2) i_is_spot [.int n, spotD s] G Q := by
  refine run rfl ?_
  show b_is_spot (WF T (k + 1)) _ [some (.int n), some (spotD s), none] G
  unfold b_is_spot spotD
  have hsl : sizeLine = 16777216 := sizeLine_eq
  refine seq_i ?_
  simp only [dVar, dC, dTup, dCons, dNil, dMat, dOp, dTest, dAnd, dOr, dNot, dAndV, dOrV, dNotV, dIf, dChain, asB, slot, wipe2, dSeq, dNext, dSet, dRet, dRetN, dDrop, dIfS, dBreak, dCont, dNever, dgName, dgNil, dgCons, dgTup, dAsg, dPar, dAug, dCall, dMeth, tyG, dIsi, isB, dLenQ, dTupQ, dAny, dAll, dMaxL, dLc, dDc, dMatD, dNil0, dYes, pdCopyG, plKeysG, dAugS, sSet, sPut, dSorSetT, dLenSet, oNo, oYes, dSlL, dSlT, dRepL, dIxL, dTpl, fE, qE, dLRng, dRevT, dNeg, iE, iL, iR1, iR2, iK, iEn, dFor, dLock, oAdd, oSub, oMul, oDiv, oMod, oLt, oLe, oGt, oGe, oEq, oNe, oIn, oNotIn, oIx, oIs, oIsNot, oI, SD.isNon, inB, ixB, ixC, eqB_int, eqB_bl, eqB_str, at_nat, atI_0, atI_1, atI_2, atI_3, atI_4, ixN_0, ixN_1, ixN_2, ixN_3, ixN_4, KeyC, lenB, SD.rLen, rInt, rMax2, mAppend, mExtend, mPop, mIndex, mIndexT, mUpdate, intsD, intsOf, bools, List.set_cons_zero, List.set_cons_succ, List.length_cons, List.length_nil, Bool.not_true, Bool.not_false, if_true, if_false, Bool.false_eq_true, true_and, and_true, Option.bind_some, List.getElem?_cons_succ, List.getElem?_cons_zero, decide_eq_true_eq, Bool.not_eq_true, gput_same, gput_gput, Option.map_some, ↓reduceIte, ite_true, String.reduceBEq, String.reduceEq, decide_true, decide_false, beq_self_eq_true]
  rw [if_neg (by decide)]
  refine w_whole ?_
  simp only [dVar, dC, dTup, dCons, dNil, dMat, dOp, dTest, dAnd, dOr, dNot, dAndV, dOrV, dNotV, dIf, dChain, asB, slot, wipe2, dSeq, dNext, dSet, dRet, dRetN, dDrop, dIfS, dBreak, dCont, dNever, dgName, dgNil, dgCons, dgTup, dAsg, dPar, dAug, dCall, dMeth, tyG, dIsi, isB, dLenQ, dTupQ, dAny, dAll, dMaxL, dLc, dDc, dMatD, dNil0, dYes, pdCopyG, plKeysG, dAugS, sSet, sPut, dSorSetT, dLenSet, oNo, oYes, dSlL, dSlT, dRepL, dIxL, dTpl, fE, qE, dLRng, dRevT, dNeg, iE, iL, iR1, iR2, iK, iEn, dFor, dLock, oAdd, oSub, oMul, oDiv, oMod, oLt, oLe, oGt, oGe, oEq, oNe, oIn, oNotIn, oIx, oIs, oIsNot, oI, SD.isNon, inB, ixB, ixC, eqB_int, eqB_bl, eqB_str, at_nat, atI_0, atI_1, atI_2, atI_3, atI_4, ixN_0, ixN_1, ixN_2, ixN_3, ixN_4, KeyC, lenB, SD.rLen, rInt, rMax2, mAppend, mExtend, mPop, mIndex, mIndexT, mUpdate, intsD, intsOf, bools, List.set_cons_zero, List.set_cons_succ, List.length_cons, List.length_nil, Bool.not_true, Bool.not_false, if_true, if_false, Bool.false_eq_true, true_and, and_true, Option.bind_some, List.getElem?_cons_succ, List.getElem?_cons_zero, decide_eq_true_eq, Bool.not_eq_true, gput_same, gput_gput, Option.map_some, ↓reduceIte, ite_true, String.reduceBEq, String.reduceEq, decide_true, decide_false, beq_self_eq_true]
  refine w_whole ?_
  simp only [dVar, dC, dTup, dCons, dNil, dMat, dOp, dTest, dAnd, dOr, dNot, dAndV, dOrV, dNotV, dIf, dChain, asB, slot, wipe2, dSeq, dNext, dSet, dRet, dRetN, dDrop, dIfS, dBreak, dCont, dNever, dgName, dgNil, dgCons, dgTup, dAsg, dPar, dAug, dCall, dMeth, tyG, dIsi, isB, dLenQ, dTupQ, dAny, dAll, dMaxL, dLc, dDc, dMatD, dNil0, dYes, pdCopyG, plKeysG, dAugS, sSet, sPut, dSorSetT, dLenSet, oNo, oYes, dSlL, dSlT, dRepL, dIxL, dTpl, fE, qE, dLRng, dRevT, dNeg, iE, iL, iR1, iR2, iK, iEn, dFor, dLock, oAdd, oSub, oMul, oDiv, oMod, oLt, oLe, oGt, oGe, oEq, oNe, oIn, oNotIn, oIx, oIs, oIsNot, oI, SD.isNon, inB, ixB, ixC, eqB_int, eqB_bl, eqB_str, at_nat, atI_0, atI_1, atI_2, atI_3, atI_4, ixN_0, ixN_1, ixN_2, ixN_3, ixN_4, KeyC, lenB, SD.rLen, rInt, rMax2, mAppend, mExtend, mPop, mIndex, mIndexT, mUpdate, intsD, intsOf, bools, List.set_cons_zero, List.set_cons_succ, List.length_cons, List.length_nil, Bool.not_true, Bool.not_false, if_true, if_false, Bool.false_eq_true, true_and, and_true, Option.bind_some, List.getElem?_cons_succ, List.getElem?_cons_zero, decide_eq_true_eq, Bool.not_eq_true, gput_same, gput_gput, Option.map_some, ↓reduceIte, ite_true, String.reduceBEq, String.reduceEq, decide_true, decide_false, beq_self_eq_true]
  have hm : D.int (s.1 : Nat) ∈ [D.int 0, D.int 1] := by
    rcases (show s.1 = 0 ∨ s.1 = 1 by omega) with e | e <;> rw [e] <;> simp
  have hl : lev (D.int (s.1 : Nat)) ≤ 60 ∧ levs [D.int 0, D.int 1] ≤ 59 := by constructor <;> simp [lev, lev.levs]
  rw [if_pos hl]
  simp only [dVar, dC, dTup, dCons, dNil, dMat, dOp, dTest, dAnd, dOr, dNot, dAndV, dOrV, dNotV, dIf, dChain, asB, slot, wipe2, dSeq, dNext, dSet, dRet, dRetN, dDrop, dIfS, dBreak, dCont, dNever, dgName, dgNil, dgCons, dgTup, dAsg, dPar, dAug, dCall, dMeth, tyG, dIsi, isB, dLenQ, dTupQ, dAny, dAll, dMaxL, dLc, dDc, dMatD, dNil0, dYes, pdCopyG, plKeysG, dAugS, sSet, sPut, dSorSetT, dLenSet, oNo, oYes, dSlL, dSlT, dRepL, dIxL, dTpl, fE, qE, dLRng, dRevT, dNeg, iE, iL, iR1, iR2, iK, iEn, dFor, dLock, oAdd, oSub, oMul, oDiv, oMod, oLt, oLe, oGt, oGe, oEq, oNe, oIn, oNotIn, oIx, oIs, oIsNot, oI, SD.isNon, inB, ixB, ixC, eqB_int, eqB_bl, eqB_str, at_nat, atI_0, atI_1, atI_2, atI_3, atI_4, ixN_0, ixN_1, ixN_2, ixN_3, ixN_4, KeyC, lenB, SD.rLen, rInt, rMax2, mAppend, mExtend, mPop, mIndex, mIndexT, mUpdate, intsD, intsOf, bools, List.set_cons_zero, List.set_cons_succ, List.length_cons, List.length_nil, Bool.not_true, Bool.not_false, if_true, if_false, Bool.false_eq_true, true_and, and_true, Option.bind_some, List.getElem?_cons_succ, List.getElem?_cons_zero, decide_eq_true_eq, Bool.not_eq_true, gput_same, gput_gput, Option.map_some, ↓reduceIte, ite_true, String.reduceBEq, String.reduceEq, decide_true, decide_false, beq_self_eq_true, decide_eq_true hm]
  rw [if_neg (by omega), if_neg (by rw [intsD', List.length_map]; have : s.2.2.length ≠ 0 := (fun e => hne (List.eq_nil_of_length_eq_zero e)); omega)]
  refine ⟨by rw [intsD', List.length_map]; omega, ?_⟩
  refine lc_true trivial _ (fun x hx R1 R0 r => ?_) ?_
  · obtain ⟨e, he, rfl⟩ := List.mem_map.mp hx
    have := hin e he
    simp only [dVar, dC, dTup, dCons, dNil, dMat, dOp, dTest, dAnd, dOr, dNot, dAndV, dOrV, dNotV, dIf, dChain, asB, slot, wipe2, dSeq, dNext, dSet, dRet, dRetN, dDrop, dIfS, dBreak, dCont, dNever, dgName, dgNil, dgCons, dgTup, dAsg, dPar, dAug, dCall, dMeth, tyG, dIsi, isB, dLenQ, dTupQ, dAny, dAll, dMaxL, dLc, dDc, dMatD, dNil0, dYes, pdCopyG, plKeysG, dAugS, sSet, sPut, dSorSetT, dLenSet, oNo, oYes, dSlL, dSlT, dRepL, dIxL, dTpl, fE, qE, dLRng, dRevT, dNeg, iE, iL, iR1, iR2, iK, iEn, dFor, dLock, oAdd, oSub, oMul, oDiv, oMod, oLt, oLe, oGt, oGe, oEq, oNe, oIn, oNotIn, oIx, oIs, oIsNot, oI, SD.isNon, inB, ixB, ixC, eqB_int, eqB_bl, eqB_str, at_nat, atI_0, atI_1, atI_2, atI_3, atI_4, ixN_0, ixN_1, ixN_2, ixN_3, ixN_4, KeyC, lenB, SD.rLen, rInt, rMax2, mAppend, mExtend, mPop, mIndex, mIndexT, mUpdate, intsD, intsOf, bools, List.set_cons_zero, List.set_cons_succ, List.length_cons, List.length_nil, Bool.not_true, Bool.not_false, if_true, if_false, Bool.false_eq_true, true_and, and_true, Option.bind_some, List.getElem?_cons_succ, List.getElem?_cons_zero, decide_eq_true_eq, Bool.not_eq_true, gput_same, gput_gput, Option.map_some, ↓reduceIte, ite_true, String.reduceBEq, String.reduceEq, decide_true, decide_false, beq_self_eq_true]
    refine w_whole ?_
    simp only [dVar, dC, dTup, dCons, dNil, dMat, dOp, dTest, dAnd, dOr, dNot, dAndV, dOrV, dNotV, dIf, dChain, asB, slot, wipe2, dSeq, dNext, dSet, dRet, dRetN, dDrop, dIfS, dBreak, dCont, dNever, dgName, dgNil, dgCons, dgTup, dAsg, dPar, dAug, dCall, dMeth, tyG, dIsi, isB, dLenQ, dTupQ, dAny, dAll, dMaxL, dLc, dDc, dMatD, dNil0, dYes, pdCopyG, plKeysG, dAugS, sSet, sPut, dSorSetT, dLenSet, oNo, oYes, dSlL, dSlT, dRepL, dIxL, dTpl, fE, qE, dLRng, dRevT, dNeg, iE, iL, iR1, iR2, iK, iEn, dFor, dLock, oAdd, oSub, oMul, oDiv, oMod, oLt, oLe, oGt, oGe, oEq, oNe, oIn, oNotIn, oIx, oIs, oIsNot, oI, SD.isNon, inB, ixB, ixC, eqB_int, eqB_bl, eqB_str, at_nat, atI_0, atI_1, atI_2, atI_3, atI_4, ixN_0, ixN_1, ixN_2, ixN_3, ixN_4, KeyC, lenB, SD.rLen, rInt, rMax2, mAppend, mExtend, mPop, mIndex, mIndexT, mUpdate, intsD, intsOf, bools, List.set_cons_zero, List.set_cons_succ, List.length_cons, List.length_nil, Bool.not_true, Bool.not_false, if_true, if_false, Bool.false_eq_true, true_and, and_true, Option.bind_some, List.getElem?_cons_succ, List.getElem?_cons_zero, decide_eq_true_eq, Bool.not_eq_true, gput_same, gput_gput, Option.map_some, ↓reduceIte, ite_true, String.reduceBEq, String.reduceEq, decide_true, decide_false, beq_self_eq_true]
    rw [if_pos (by omega)]
    rw [decide_eq_true (by omega : (e : Int) < n)]; exact r
  · rw [all_true]
    simp only [dVar, dC, dTup, dCons, dNil, dMat, dOp, dTest, dAnd, dOr, dNot, dAndV, dOrV, dNotV, dIf, dChain, asB, slot, wipe2, dSeq, dNext, dSet, dRet, dRetN, dDrop, dIfS, dBreak, dCont, dNever, dgName, dgNil, dgCons, dgTup, dAsg, dPar, dAug, dCall, dMeth, tyG, dIsi, isB, dLenQ, dTupQ, dAny, dAll, dMaxL, dLc, dDc, dMatD, dNil0, dYes, pdCopyG, plKeysG, dAugS, sSet, sPut, dSorSetT, dLenSet, oNo, oYes, dSlL, dSlT, dRepL, dIxL, dTpl, fE, qE, dLRng, dRevT, dNeg, iE, iL, iR1, iR2, iK, iEn, dFor, dLock, oAdd, oSub, oMul, oDiv, oMod, oLt, oLe, oGt, oGe, oEq, oNe, oIn, oNotIn, oIx, oIs, oIsNot, oI, SD.isNon, inB, ixB, ixC, eqB_int, eqB_bl, eqB_str, at_nat, atI_0, atI_1, atI_2, atI_3, atI_4, ixN_0, ixN_1, ixN_2, ixN_3, ixN_4, KeyC, lenB, SD.rLen, rInt, rMax2, mAppend, mExtend, mPop, mIndex, mIndexT, mUpdate, intsD, intsOf, bools, List.set_cons_zero, List.set_cons_succ, List.length_cons, List.length_nil, Bool.not_true, Bool.not_false, if_true, if_false, Bool.false_eq_true, true_and, and_true, Option.bind_some, List.getElem?_cons_succ, List.getElem?_cons_zero, decide_eq_true_eq, Bool.not_eq_true, gput_same, gput_gput, Option.map_some, ↓reduceIte, ite_true, String.reduceBEq, String.reduceEq, decide_true, decide_false, beq_self_eq_true]
    have : ((intsD' s.2.2).map fun _ => true).all id = true := by simp
    rw [this]
    exact .now .refl q
theorem w_game {k : Nat} {gm : List Spot} (ok : GmOk gm) (hne : 0 < gm.length) {G : Gp} {Q : VK2} (q : Q (.bl true) G) : WF T (k + 3) i_is_game [gameD gm] G Q := by
  refine run rfl ?_
  show b_is_game (WF T (k + 2)) _ [some (gameD gm), none] G
  unfold b_is_game gameD
  have hsl : sizeLine = 16777216 := sizeLine_eq
  have most := ok.most
  refine seq_i ?_
  simp only [dVar, dC, dTup, dCons, dNil, dMat, dOp, dTest, dAnd, dOr, dNot, dAndV, dOrV, dNotV, dIf, dChain, asB, slot, wipe2, dSeq, dNext, dSet, dRet, dRetN, dDrop, dIfS, dBreak, dCont, dNever, dgName, dgNil, dgCons, dgTup, dAsg, dPar, dAug, dCall, dMeth, tyG, dIsi, isB, dLenQ, dTupQ, dAny, dAll, dMaxL, dLc, dDc, dMatD, dNil0, dYes, pdCopyG, plKeysG, dAugS, sSet, sPut, dSorSetT, dLenSet, oNo, oYes, dSlL, dSlT, dRepL, dIxL, dTpl, fE, qE, dLRng, dRevT, dNeg, iE, iL, iR1, iR2, iK, iEn, dFor, dLock, oAdd, oSub, oMul, oDiv, oMod, oLt, oLe, oGt, oGe, oEq, oNe, oIn, oNotIn, oIx, oIs, oIsNot, oI, SD.isNon, inB, ixB, ixC, eqB_int, eqB_bl, eqB_str, at_nat, atI_0, atI_1, atI_2, atI_3, atI_4, ixN_0, ixN_1, ixN_2, ixN_3, ixN_4, KeyC, lenB, SD.rLen, rInt, rMax2, mAppend, mExtend, mPop, mIndex, mIndexT, mUpdate, intsD, intsOf, bools, List.set_cons_zero, List.set_cons_succ, List.length_cons, List.length_nil, Bool.not_true, Bool.not_false, if_true, if_false, Bool.false_eq_true, true_and, and_true, Option.bind_some, List.getElem?_cons_succ, List.getElem?_cons_zero, decide_eq_true_eq, Bool.not_eq_true, gput_same, gput_gput, Option.map_some, ↓reduceIte, ite_true, String.reduceBEq, String.reduceEq, decide_true, decide_false, beq_self_eq_true, g_MOST_SPOTS]
  rw [if_pos (by rw [List.length_map]; omega), if_neg (by rw [List.length_map]; simp; omega)]
  refine ⟨by rw [List.length_map]; omega, ?_⟩
  refine lc_true trivial _ (fun x hx R1 R0 r => ?_) ?_
  · obtain ⟨s, hs, rfl⟩ := List.mem_map.mp hx
    obtain ⟨i, hi⟩ := List.getElem?_of_mem hs
    simp only [dVar, dC, dTup, dCons, dNil, dMat, dOp, dTest, dAnd, dOr, dNot, dAndV, dOrV, dNotV, dIf, dChain, asB, slot, wipe2, dSeq, dNext, dSet, dRet, dRetN, dDrop, dIfS, dBreak, dCont, dNever, dgName, dgNil, dgCons, dgTup, dAsg, dPar, dAug, dCall, dMeth, tyG, dIsi, isB, dLenQ, dTupQ, dAny, dAll, dMaxL, dLc, dDc, dMatD, dNil0, dYes, pdCopyG, plKeysG, dAugS, sSet, sPut, dSorSetT, dLenSet, oNo, oYes, dSlL, dSlT, dRepL, dIxL, dTpl, fE, qE, dLRng, dRevT, dNeg, iE, iL, iR1, iR2, iK, iEn, dFor, dLock, oAdd, oSub, oMul, oDiv, oMod, oLt, oLe, oGt, oGe, oEq, oNe, oIn, oNotIn, oIx, oIs, oIsNot, oI, SD.isNon, inB, ixB, ixC, eqB_int, eqB_bl, eqB_str, at_nat, atI_0, atI_1, atI_2, atI_3, atI_4, ixN_0, ixN_1, ixN_2, ixN_3, ixN_4, KeyC, lenB, SD.rLen, rInt, rMax2, mAppend, mExtend, mPop, mIndex, mIndexT, mUpdate, intsD, intsOf, bools, List.set_cons_zero, List.set_cons_succ, List.length_cons, List.length_nil, Bool.not_true, Bool.not_false, if_true, if_false, Bool.false_eq_true, true_and, and_true, Option.bind_some, List.getElem?_cons_succ, List.getElem?_cons_zero, decide_eq_true_eq, Bool.not_eq_true, gput_same, gput_gput, Option.map_some, ↓reduceIte, ite_true, String.reduceBEq, String.reduceEq, decide_true, decide_false, beq_self_eq_true]
    rw [List.length_map]
    refine w_spot (ok.two _ _ hi) (ok.in_ _ _ hi) (ok.some_ _ _ hi) (ok.few _ _ hi) ?_
    exact r
  · rw [all_true]
    simp only [dVar, dC, dTup, dCons, dNil, dMat, dOp, dTest, dAnd, dOr, dNot, dAndV, dOrV, dNotV, dIf, dChain, asB, slot, wipe2, dSeq, dNext, dSet, dRet, dRetN, dDrop, dIfS, dBreak, dCont, dNever, dgName, dgNil, dgCons, dgTup, dAsg, dPar, dAug, dCall, dMeth, tyG, dIsi, isB, dLenQ, dTupQ, dAny, dAll, dMaxL, dLc, dDc, dMatD, dNil0, dYes, pdCopyG, plKeysG, dAugS, sSet, sPut, dSorSetT, dLenSet, oNo, oYes, dSlL, dSlT, dRepL, dIxL, dTpl, fE, qE, dLRng, dRevT, dNeg, iE, iL, iR1, iR2, iK, iEn, dFor, dLock, oAdd, oSub, oMul, oDiv, oMod, oLt, oLe, oGt, oGe, oEq, oNe, oIn, oNotIn, oIx, oIs, oIsNot, oI, SD.isNon, inB, ixB, ixC, eqB_int, eqB_bl, eqB_str, at_nat, atI_0, atI_1, atI_2, atI_3, atI_4, ixN_0, ixN_1, ixN_2, ixN_3, ixN_4, KeyC, lenB, SD.rLen, rInt, rMax2, mAppend, mExtend, mPop, mIndex, mIndexT, mUpdate, intsD, intsOf, bools, List.set_cons_zero, List.set_cons_succ, List.length_cons, List.length_nil, Bool.not_true, Bool.not_false, if_true, if_false, Bool.false_eq_true, true_and, and_true, Option.bind_some, List.getElem?_cons_succ, List.getElem?_cons_zero, decide_eq_true_eq, Bool.not_eq_true, gput_same, gput_gput, Option.map_some, ↓reduceIte, ite_true, String.reduceBEq, String.reduceEq, decide_true, decide_false, beq_self_eq_true]
    have : ((gm.map spotD).map fun _ => true).all id = true := by simp
    rw [this]
    exact .now .refl q
theorem w_sameI {k : Nat} {i : Int} {G : Gp} {Q : VK2} (q : Q (.bl true) G) : WF T (k + 1) i__law_same [.int i, .int i] G Q := by
  refine run rfl ?_
  show b__law_same (WF T k) _ [some (.int i), some (.int i), none] G
  unfold b__law_same
  refine seq_i ?_
  simp only [dVar, dC, dTup, dCons, dNil, dMat, dOp, dTest, dAnd, dOr, dNot, dAndV, dOrV, dNotV, dIf, dChain, asB, slot, wipe2, dSeq, dNext, dSet, dRet, dRetN, dDrop, dIfS, dBreak, dCont, dNever, dgName, dgNil, dgCons, dgTup, dAsg, dPar, dAug, dCall, dMeth, tyG, dIsi, isB, dLenQ, dTupQ, dAny, dAll, dMaxL, dLc, dDc, dMatD, dNil0, dYes, pdCopyG, plKeysG, dAugS, sSet, sPut, dSorSetT, dLenSet, oNo, oYes, dSlL, dSlT, dRepL, dIxL, dTpl, fE, qE, dLRng, dRevT, dNeg, iE, iL, iR1, iR2, iK, iEn, dFor, dLock, oAdd, oSub, oMul, oDiv, oMod, oLt, oLe, oGt, oGe, oEq, oNe, oIn, oNotIn, oIx, oIs, oIsNot, oI, SD.isNon, inB, ixB, ixC, eqB_int, eqB_bl, eqB_str, at_nat, atI_0, atI_1, atI_2, atI_3, atI_4, ixN_0, ixN_1, ixN_2, ixN_3, ixN_4, KeyC, lenB, SD.rLen, rInt, rMax2, mAppend, mExtend, mPop, mIndex, mIndexT, mUpdate, intsD, intsOf, bools, List.set_cons_zero, List.set_cons_succ, List.length_cons, List.length_nil, Bool.not_true, Bool.not_false, if_true, if_false, Bool.false_eq_true, true_and, and_true, Option.bind_some, List.getElem?_cons_succ, List.getElem?_cons_zero, decide_eq_true_eq, Bool.not_eq_true, gput_same, gput_gput, Option.map_some, ↓reduceIte, ite_true, String.reduceBEq, String.reduceEq, decide_true, decide_false, beq_self_eq_true]
  exact .now .refl q
theorem w_sameT {k : Nat} {es : List Nat} (h : es.length ≤ 2000) {G : Gp} {Q : VK2} (q : Q (.bl true) G) : WF T (k + 2) i__law_same [.tup (intsD' es), .tup (intsD' es)] G Q := by
  refine run rfl ?_
  show b__law_same (WF T (k + 1)) _ [some (.tup (intsD' es)), some (.tup (intsD' es)), none] G
  unfold b__law_same
  have hsl : sizeLine = 16777216 := sizeLine_eq
  have hl : (intsD' es).length = es.length := by rw [intsD', List.length_map]
  refine seq_i ?_
  simp only [dVar, dC, dTup, dCons, dNil, dMat, dOp, dTest, dAnd, dOr, dNot, dAndV, dOrV, dNotV, dIf, dChain, asB, slot, wipe2, dSeq, dNext, dSet, dRet, dRetN, dDrop, dIfS, dBreak, dCont, dNever, dgName, dgNil, dgCons, dgTup, dAsg, dPar, dAug, dCall, dMeth, tyG, dIsi, isB, dLenQ, dTupQ, dAny, dAll, dMaxL, dLc, dDc, dMatD, dNil0, dYes, pdCopyG, plKeysG, dAugS, sSet, sPut, dSorSetT, dLenSet, oNo, oYes, dSlL, dSlT, dRepL, dIxL, dTpl, fE, qE, dLRng, dRevT, dNeg, iE, iL, iR1, iR2, iK, iEn, dFor, dLock, oAdd, oSub, oMul, oDiv, oMod, oLt, oLe, oGt, oGe, oEq, oNe, oIn, oNotIn, oIx, oIs, oIsNot, oI, SD.isNon, inB, ixB, ixC, eqB_int, eqB_bl, eqB_str, at_nat, atI_0, atI_1, atI_2, atI_3, atI_4, ixN_0, ixN_1, ixN_2, ixN_3, ixN_4, KeyC, lenB, SD.rLen, rInt, rMax2, mAppend, mExtend, mPop, mIndex, mIndexT, mUpdate, intsD, intsOf, bools, List.set_cons_zero, List.set_cons_succ, List.length_cons, List.length_nil, Bool.not_true, Bool.not_false, if_true, if_false, Bool.false_eq_true, true_and, and_true, Option.bind_some, List.getElem?_cons_succ, List.getElem?_cons_zero, decide_eq_true_eq, Bool.not_eq_true, gput_same, gput_gput, Option.map_some, ↓reduceIte, ite_true, String.reduceBEq, String.reduceEq, decide_true, decide_false, beq_self_eq_true]
  have hn : ((intsD' es).length : Int).toNat = es.length := by rw [hl]; omega
  rw [hn, rngD0]
  refine ⟨by rw [hl]; omega, by simp; omega, ?_⟩
  refine lc_pure (fun _ => none) trivial _ [] (fun x hx R1 R0 r => ?_) ?_
  · obtain ⟨j, hj, rfl⟩ := List.mem_map.mp hx
    have hj' := List.mem_range.mp hj
    have e : (intsD' es)[j]? = some (.int (es[j])) := by simp [intsD', hj']
    simp only [dVar, dC, dTup, dCons, dNil, dMat, dOp, dTest, dAnd, dOr, dNot, dAndV, dOrV, dNotV, dIf, dChain, asB, slot, wipe2, dSeq, dNext, dSet, dRet, dRetN, dDrop, dIfS, dBreak, dCont, dNever, dgName, dgNil, dgCons, dgTup, dAsg, dPar, dAug, dCall, dMeth, tyG, dIsi, isB, dLenQ, dTupQ, dAny, dAll, dMaxL, dLc, dDc, dMatD, dNil0, dYes, pdCopyG, plKeysG, dAugS, sSet, sPut, dSorSetT, dLenSet, oNo, oYes, dSlL, dSlT, dRepL, dIxL, dTpl, fE, qE, dLRng, dRevT, dNeg, iE, iL, iR1, iR2, iK, iEn, dFor, dLock, oAdd, oSub, oMul, oDiv, oMod, oLt, oLe, oGt, oGe, oEq, oNe, oIn, oNotIn, oIx, oIs, oIsNot, oI, SD.isNon, inB, ixB, ixC, eqB_int, eqB_bl, eqB_str, at_nat, atI_0, atI_1, atI_2, atI_3, atI_4, ixN_0, ixN_1, ixN_2, ixN_3, ixN_4, KeyC, lenB, SD.rLen, rInt, rMax2, mAppend, mExtend, mPop, mIndex, mIndexT, mUpdate, intsD, intsOf, bools, List.set_cons_zero, List.set_cons_succ, List.length_cons, List.length_nil, Bool.not_true, Bool.not_false, if_true, if_false, Bool.false_eq_true, true_and, and_true, Option.bind_some, List.getElem?_cons_succ, List.getElem?_cons_zero, decide_eq_true_eq, Bool.not_eq_true, gput_same, gput_gput, Option.map_some, ↓reduceIte, ite_true, String.reduceBEq, String.reduceEq, decide_true, decide_false, beq_self_eq_true, e]
    refine w_sameI ?_
    exact r
  · have : ([] : List D) ++ ((List.range es.length).map fun (k : Nat) => D.int k).filterMap (fun _ => (none : Option D)) = [] := by simp
    rw [this]
    exact .now .refl q
theorem w_sameL {k : Nat} {a b : Addr} {l1 l2 : Bool} {ys : List (List Nat)} (h : ys.length ≤ 2000) (h2 : ∀ es ∈ ys, es.length ≤ 2000) {G : Gp} {Q : VK2} (ha : G a = some (.lst l1 (ys.map fun es => .tup (intsD' es)))) (hb : G b = some (.lst l2 (ys.map fun es => .tup (intsD' es)))) (q : Q (.bl true) G) : WF T (k + 3) i__law_same [.ref a, .ref b] G Q := by
  refine run rfl ?_
  show b__law_same (WF T (k + 2)) _ [some (.ref a), some (.ref b), none] G
  unfold b__law_same
  have hsl : sizeLine = 16777216 := sizeLine_eq
  refine seq_i ?_
  simp only [dVar, dC, dTup, dCons, dNil, dMat, dOp, dTest, dAnd, dOr, dNot, dAndV, dOrV, dNotV, dIf, dChain, asB, slot, wipe2, dSeq, dNext, dSet, dRet, dRetN, dDrop, dIfS, dBreak, dCont, dNever, dgName, dgNil, dgCons, dgTup, dAsg, dPar, dAug, dCall, dMeth, tyG, dIsi, isB, dLenQ, dTupQ, dAny, dAll, dMaxL, dLc, dDc, dMatD, dNil0, dYes, pdCopyG, plKeysG, dAugS, sSet, sPut, dSorSetT, dLenSet, oNo, oYes, dSlL, dSlT, dRepL, dIxL, dTpl, fE, qE, dLRng, dRevT, dNeg, iE, iL, iR1, iR2, iK, iEn, dFor, dLock, oAdd, oSub, oMul, oDiv, oMod, oLt, oLe, oGt, oGe, oEq, oNe, oIn, oNotIn, oIx, oIs, oIsNot, oI, SD.isNon, inB, ixB, ixC, eqB_int, eqB_bl, eqB_str, at_nat, atI_0, atI_1, atI_2, atI_3, atI_4, ixN_0, ixN_1, ixN_2, ixN_3, ixN_4, KeyC, lenB, SD.rLen, rInt, rMax2, mAppend, mExtend, mPop, mIndex, mIndexT, mUpdate, intsD, intsOf, bools, List.set_cons_zero, List.set_cons_succ, List.length_cons, List.length_nil, Bool.not_true, Bool.not_false, if_true, if_false, Bool.false_eq_true, true_and, and_true, Option.bind_some, List.getElem?_cons_succ, List.getElem?_cons_zero, decide_eq_true_eq, Bool.not_eq_true, gput_same, gput_gput, Option.map_some, ↓reduceIte, ite_true, String.reduceBEq, String.reduceEq, decide_true, decide_false, beq_self_eq_true, ha, hb]
  have hn : ((ys.map fun es => D.tup (intsD' es)).length : Int).toNat = ys.length := by rw [List.length_map]; omega
  rw [hn, rngD0]
  refine ⟨by rw [List.length_map]; omega, by simp; omega, ?_⟩
  refine lc_pure (fun _ => none) trivial _ [] (fun x hx R1 R0 r => ?_) ?_
  · obtain ⟨j, hj, rfl⟩ := List.mem_map.mp hx
    have hj' := List.mem_range.mp hj
    simp only [dVar, dC, dTup, dCons, dNil, dMat, dOp, dTest, dAnd, dOr, dNot, dAndV, dOrV, dNotV, dIf, dChain, asB, slot, wipe2, dSeq, dNext, dSet, dRet, dRetN, dDrop, dIfS, dBreak, dCont, dNever, dgName, dgNil, dgCons, dgTup, dAsg, dPar, dAug, dCall, dMeth, tyG, dIsi, isB, dLenQ, dTupQ, dAny, dAll, dMaxL, dLc, dDc, dMatD, dNil0, dYes, pdCopyG, plKeysG, dAugS, sSet, sPut, dSorSetT, dLenSet, oNo, oYes, dSlL, dSlT, dRepL, dIxL, dTpl, fE, qE, dLRng, dRevT, dNeg, iE, iL, iR1, iR2, iK, iEn, dFor, dLock, oAdd, oSub, oMul, oDiv, oMod, oLt, oLe, oGt, oGe, oEq, oNe, oIn, oNotIn, oIx, oIs, oIsNot, oI, SD.isNon, inB, ixB, ixC, eqB_int, eqB_bl, eqB_str, at_nat, atI_0, atI_1, atI_2, atI_3, atI_4, ixN_0, ixN_1, ixN_2, ixN_3, ixN_4, KeyC, lenB, SD.rLen, rInt, rMax2, mAppend, mExtend, mPop, mIndex, mIndexT, mUpdate, intsD, intsOf, bools, List.set_cons_zero, List.set_cons_succ, List.length_cons, List.length_nil, Bool.not_true, Bool.not_false, if_true, if_false, Bool.false_eq_true, true_and, and_true, Option.bind_some, List.getElem?_cons_succ, List.getElem?_cons_zero, decide_eq_true_eq, Bool.not_eq_true, gput_same, gput_gput, Option.map_some, ↓reduceIte, ite_true, String.reduceBEq, String.reduceEq, decide_true, decide_false, beq_self_eq_true, ha, hb, List.getElem?_map, List.getElem?_eq_getElem hj']
    refine w_sameT (h2 _ (List.getElem_mem hj')) ?_
    exact r
  · have : ([] : List D) ++ ((List.range ys.length).map fun (k : Nat) => D.int k).filterMap (fun _ => (none : Option D)) = [] := by simp
    rw [this]
    exact .now .refl q
theorem cutD_take (xs : List D) (r : Nat) : SD.cutD xs none (some (r : Int)) = xs.take r := by
  unfold SD.cutD
  rw [HT.sIx_none, HT.sIx_nat, List.drop_zero, Nat.sub_zero, Nat.min_def]
  split
  · rfl
  · rw [List.take_of_length_le (Nat.le_refl _), List.take_of_length_le (by omega)]
theorem cutD_drop (xs : List D) (r : Nat) : SD.cutD xs (some (r : Int)) none = xs.drop r := by
  unfold SD.cutD
  rw [HT.sIx_none, HT.sIx_nat, Nat.min_def]
  split
  · rw [List.take_of_length_le (by simp)]
  · rw [List.drop_of_length_le (Nat.le_refl _), List.drop_of_length_le (by omega)]; simp
/-! ## what is drawn -/
theorem w_shuffled {k : Nat} {a sc it : Addr} {N n : Nat} {G : Gp} {Q : VK2} (P : PoolOk G a sc N) (hn : n ≤ 2000) (hN : N + n < bigN) (hit : G it = some (.lst false (intsD' (List.range n)))) (hia : it ≠ a)
    (q : ∀ (p : Addr) (od : List Nat) (G' : Gp), od.Nodup → (∀ x, x ∈ od ↔ x < n) → G' p = some (.tpl (intsD' od)) → PoolOk G' a sc (N + n) → (∀ b, b ≠ a → b ≠ p → G' b = G b) → G p = none → Q (.ref p) G') : WF T (k + 3) i__law_shuffled [.ref a, .ref it] G Q := by
  refine run rfl ?_
  show b__law_shuffled (WF T (k + 2)) _ [some (.ref a), some (.ref it), none, none, none] G
  unfold b__law_shuffled
  have hsl : sizeLine = 16777216 := sizeLine_eq
  refine seq_i ?_
  simp only [dVar, dC, dTup, dCons, dNil, dMat, dOp, dTest, dAnd, dOr, dNot, dAndV, dOrV, dNotV, dIf, dChain, asB, slot, wipe2, dSeq, dNext, dSet, dRet, dRetN, dDrop, dIfS, dBreak, dCont, dNever, dgName, dgNil, dgCons, dgTup, dAsg, dPar, dAug, dCall, dMeth, tyG, dIsi, isB, dLenQ, dTupQ, dAny, dAll, dMaxL, dLc, dDc, dMatD, dNil0, dYes, pdCopyG, plKeysG, dAugS, sSet, sPut, dSorSetT, dLenSet, oNo, oYes, dSlL, dSlT, dRepL, dIxL, dTpl, fE, qE, dLRng, dRevT, dNeg, iE, iL, iR1, iR2, iK, iEn, dFor, dLock, oAdd, oSub, oMul, oDiv, oMod, oLt, oLe, oGt, oGe, oEq, oNe, oIn, oNotIn, oIx, oIs, oIsNot, oI, SD.isNon, inB, ixB, ixC, eqB_int, eqB_bl, eqB_str, at_nat, atI_0, atI_1, atI_2, atI_3, atI_4, ixN_0, ixN_1, ixN_2, ixN_3, ixN_4, KeyC, lenB, SD.rLen, rInt, rMax2, mAppend, mExtend, mPop, mIndex, mIndexT, mUpdate, intsD, intsOf, bools, List.set_cons_zero, List.set_cons_succ, List.length_cons, List.length_nil, Bool.not_true, Bool.not_false, if_true, if_false, Bool.false_eq_true, true_and, and_true, Option.bind_some, List.getElem?_cons_succ, List.getElem?_cons_zero, decide_eq_true_eq, Bool.not_eq_true, gput_same, gput_gput, Option.map_some, ↓reduceIte, ite_true, String.reduceBEq, String.reduceEq, decide_true, decide_false, beq_self_eq_true, hit]
  intro lf hlf fo hfo
  have hfl : fo ≠ lf := fun e => by rw [e, gput_same] at hfo; cases hfo
  rw [gput_ne hfl] at hfo
  obtain ⟨hsa, ⟨ma, hma⟩, ⟨ms, hms⟩⟩ := P.ne
  have nfr : ∀ {b c : Addr} {m : MO}, G b = some m → G c = none → b ≠ c := fun {b c m} e h z => by rw [z, h] at e; cases e
  refine while_inv (fun meas δ G' => ∃ (lf : Addr) (ls fs : List Nat) (x4 : Option D), δ = [some (.ref a), some (.ref it), some (.ref lf), some (.ref fo), x4] ∧ G' lf = some (.lst false (intsD' ls)) ∧ G' fo = some (.lst false (intsD' fs)) ∧ PoolOk G' a sc (N + fs.length) ∧
    (fs ++ ls).Perm (List.range n) ∧ ls.length = meas ∧ (∀ b m, G b = some m → b ≠ a → G' b = some m) ∧ G lf = none ∧ fo ≠ lf) ?_
    ⟨lf, List.range n, [], none, rfl, by rw [gput_ne hfl.symm, gput_same], gput_same, P.of (Nat.le_refl _) (by rw [gput_ne (nfr hma hfo), gput_ne (nfr hma hlf)]) (by rw [gput_ne (nfr hms hfo), gput_ne (nfr hms hlf)]), List.Perm.refl _, rfl,
      fun b m e _ => by rw [gput_ne (nfr e hfo), gput_ne (nfr e hlf)]; exact e, hlf, hfl⟩
  rintro meas δ G' nx ⟨lf, ls, fs, x4, rfl, hL, hF, PG, pm, rfl, hfr, hlf, hfl⟩ hnx
  have hlen : fs.length + ls.length = n := by have := pm.length_eq; simpa using this
  have hll : (intsD' ls).length = ls.length := by rw [intsD', List.length_map]
  have hfll : (intsD' fs).length = fs.length := by rw [intsD', List.length_map]
  simp only [dVar, dC, dTup, dCons, dNil, dMat, dOp, dTest, dAnd, dOr, dNot, dAndV, dOrV, dNotV, dIf, dChain, asB, slot, wipe2, dSeq, dNext, dSet, dRet, dRetN, dDrop, dIfS, dBreak, dCont, dNever, dgName, dgNil, dgCons, dgTup, dAsg, dPar, dAug, dCall, dMeth, tyG, dIsi, isB, dLenQ, dTupQ, dAny, dAll, dMaxL, dLc, dDc, dMatD, dNil0, dYes, pdCopyG, plKeysG, dAugS, sSet, sPut, dSorSetT, dLenSet, oNo, oYes, dSlL, dSlT, dRepL, dIxL, dTpl, fE, qE, dLRng, dRevT, dNeg, iE, iL, iR1, iR2, iK, iEn, dFor, dLock, oAdd, oSub, oMul, oDiv, oMod, oLt, oLe, oGt, oGe, oEq, oNe, oIn, oNotIn, oIx, oIs, oIsNot, oI, SD.isNon, inB, ixB, ixC, eqB_int, eqB_bl, eqB_str, at_nat, atI_0, atI_1, atI_2, atI_3, atI_4, ixN_0, ixN_1, ixN_2, ixN_3, ixN_4, KeyC, lenB, SD.rLen, rInt, rMax2, mAppend, mExtend, mPop, mIndex, mIndexT, mUpdate, intsD, intsOf, bools, List.set_cons_zero, List.set_cons_succ, List.length_cons, List.length_nil, Bool.not_true, Bool.not_false, if_true, if_false, Bool.false_eq_true, true_and, and_true, Option.bind_some, List.getElem?_cons_succ, List.getElem?_cons_zero, decide_eq_true_eq, Bool.not_eq_true, gput_same, gput_gput, Option.map_some, ↓reduceIte, ite_true, String.reduceBEq, String.reduceEq, decide_true, decide_false, beq_self_eq_true, hL]
  refine ite2 (fun hpos => ?_) fun hpos => ?_
  · rw [hll]
    refine w_draw PG (by omega) (by rw [hll] at hpos; exact hpos) (by omega) fun r G2 h0 h1 P2 hf2 => ?_
    obtain ⟨r, rfl⟩ : ∃ j : Nat, r = (j : Int) := ⟨r.toNat, by omega⟩
    have hr : r < ls.length := by omega
    have hla : lf ≠ a := fun e => nfr hma hlf e.symm
    have hfa : fo ≠ a := fun e => nfr hma hfo e.symm
    have e1 : (intsD' ls)[r]? = some (.int (ls[r])) := by simp [intsD', hr]
    have hL2 : G2 lf = some (.lst false (intsD' ls)) := by rw [hf2 lf hla]; exact hL
    have hF2 : G2 fo = some (.lst false (intsD' fs)) := by rw [hf2 fo hfa]; exact hF
    simp only [dVar, dC, dTup, dCons, dNil, dMat, dOp, dTest, dAnd, dOr, dNot, dAndV, dOrV, dNotV, dIf, dChain, asB, slot, wipe2, dSeq, dNext, dSet, dRet, dRetN, dDrop, dIfS, dBreak, dCont, dNever, dgName, dgNil, dgCons, dgTup, dAsg, dPar, dAug, dCall, dMeth, tyG, dIsi, isB, dLenQ, dTupQ, dAny, dAll, dMaxL, dLc, dDc, dMatD, dNil0, dYes, pdCopyG, plKeysG, dAugS, sSet, sPut, dSorSetT, dLenSet, oNo, oYes, dSlL, dSlT, dRepL, dIxL, dTpl, fE, qE, dLRng, dRevT, dNeg, iE, iL, iR1, iR2, iK, iEn, dFor, dLock, oAdd, oSub, oMul, oDiv, oMod, oLt, oLe, oGt, oGe, oEq, oNe, oIn, oNotIn, oIx, oIs, oIsNot, oI, SD.isNon, inB, ixB, ixC, eqB_int, eqB_bl, eqB_str, at_nat, atI_0, atI_1, atI_2, atI_3, atI_4, ixN_0, ixN_1, ixN_2, ixN_3, ixN_4, KeyC, lenB, SD.rLen, rInt, rMax2, mAppend, mExtend, mPop, mIndex, mIndexT, mUpdate, intsD, intsOf, bools, List.set_cons_zero, List.set_cons_succ, List.length_cons, List.length_nil, Bool.not_true, Bool.not_false, if_true, if_false, Bool.false_eq_true, true_and, and_true, Option.bind_some, List.getElem?_cons_succ, List.getElem?_cons_zero, decide_eq_true_eq, Bool.not_eq_true, gput_same, gput_gput, Option.map_some, ↓reduceIte, ite_true, String.reduceBEq, String.reduceEq, decide_true, decide_false, beq_self_eq_true, hL2, hF2, e1]
    refine ⟨by omega, ?_⟩
    simp only [dVar, dC, dTup, dCons, dNil, dMat, dOp, dTest, dAnd, dOr, dNot, dAndV, dOrV, dNotV, dIf, dChain, asB, slot, wipe2, dSeq, dNext, dSet, dRet, dRetN, dDrop, dIfS, dBreak, dCont, dNever, dgName, dgNil, dgCons, dgTup, dAsg, dPar, dAug, dCall, dMeth, tyG, dIsi, isB, dLenQ, dTupQ, dAny, dAll, dMaxL, dLc, dDc, dMatD, dNil0, dYes, pdCopyG, plKeysG, dAugS, sSet, sPut, dSorSetT, dLenSet, oNo, oYes, dSlL, dSlT, dRepL, dIxL, dTpl, fE, qE, dLRng, dRevT, dNeg, iE, iL, iR1, iR2, iK, iEn, dFor, dLock, oAdd, oSub, oMul, oDiv, oMod, oLt, oLe, oGt, oGe, oEq, oNe, oIn, oNotIn, oIx, oIs, oIsNot, oI, SD.isNon, inB, ixB, ixC, eqB_int, eqB_bl, eqB_str, at_nat, atI_0, atI_1, atI_2, atI_3, atI_4, ixN_0, ixN_1, ixN_2, ixN_3, ixN_4, KeyC, lenB, SD.rLen, rInt, rMax2, mAppend, mExtend, mPop, mIndex, mIndexT, mUpdate, intsD, intsOf, bools, List.set_cons_zero, List.set_cons_succ, List.length_cons, List.length_nil, Bool.not_true, Bool.not_false, if_true, if_false, Bool.false_eq_true, true_and, and_true, Option.bind_some, List.getElem?_cons_succ, List.getElem?_cons_zero, decide_eq_true_eq, Bool.not_eq_true, gput_same, gput_gput, Option.map_some, ↓reduceIte, ite_true, String.reduceBEq, String.reduceEq, decide_true, decide_false, beq_self_eq_true, gput_ne hfl.symm, hL2]
    rw [cutD_take]
    intro p1 hp1
    have n1 : ∀ {b : Addr} {m : MO}, gput G2 fo (.lst false (intsD' fs ++ [D.int (ls[r] : Nat)])) b = some m → b ≠ p1 := fun {b m} e z => by rw [z, hp1] at e; cases e
    have k1 : lf ≠ p1 := n1 (by rw [gput_ne hfl.symm]; exact hL2)
    simp only [dVar, dC, dTup, dCons, dNil, dMat, dOp, dTest, dAnd, dOr, dNot, dAndV, dOrV, dNotV, dIf, dChain, asB, slot, wipe2, dSeq, dNext, dSet, dRet, dRetN, dDrop, dIfS, dBreak, dCont, dNever, dgName, dgNil, dgCons, dgTup, dAsg, dPar, dAug, dCall, dMeth, tyG, dIsi, isB, dLenQ, dTupQ, dAny, dAll, dMaxL, dLc, dDc, dMatD, dNil0, dYes, pdCopyG, plKeysG, dAugS, sSet, sPut, dSorSetT, dLenSet, oNo, oYes, dSlL, dSlT, dRepL, dIxL, dTpl, fE, qE, dLRng, dRevT, dNeg, iE, iL, iR1, iR2, iK, iEn, dFor, dLock, oAdd, oSub, oMul, oDiv, oMod, oLt, oLe, oGt, oGe, oEq, oNe, oIn, oNotIn, oIx, oIs, oIsNot, oI, SD.isNon, inB, ixB, ixC, eqB_int, eqB_bl, eqB_str, at_nat, atI_0, atI_1, atI_2, atI_3, atI_4, ixN_0, ixN_1, ixN_2, ixN_3, ixN_4, KeyC, lenB, SD.rLen, rInt, rMax2, mAppend, mExtend, mPop, mIndex, mIndexT, mUpdate, intsD, intsOf, bools, List.set_cons_zero, List.set_cons_succ, List.length_cons, List.length_nil, Bool.not_true, Bool.not_false, if_true, if_false, Bool.false_eq_true, true_and, and_true, Option.bind_some, List.getElem?_cons_succ, List.getElem?_cons_zero, decide_eq_true_eq, Bool.not_eq_true, gput_same, gput_gput, Option.map_some, ↓reduceIte, ite_true, String.reduceBEq, String.reduceEq, decide_true, decide_false, beq_self_eq_true, gput_ne k1, gput_ne hfl.symm, hL2]
    have ecast : ((r : Int) + 1) = ((r + 1 : Nat) : Int) := by omega
    rw [ecast, cutD_drop]
    intro p2 hp2
    have k2 : p1 ≠ p2 := fun e => by rw [← e, gput_same] at hp2; cases hp2
    simp only [dVar, dC, dTup, dCons, dNil, dMat, dOp, dTest, dAnd, dOr, dNot, dAndV, dOrV, dNotV, dIf, dChain, asB, slot, wipe2, dSeq, dNext, dSet, dRet, dRetN, dDrop, dIfS, dBreak, dCont, dNever, dgName, dgNil, dgCons, dgTup, dAsg, dPar, dAug, dCall, dMeth, tyG, dIsi, isB, dLenQ, dTupQ, dAny, dAll, dMaxL, dLc, dDc, dMatD, dNil0, dYes, pdCopyG, plKeysG, dAugS, sSet, sPut, dSorSetT, dLenSet, oNo, oYes, dSlL, dSlT, dRepL, dIxL, dTpl, fE, qE, dLRng, dRevT, dNeg, iE, iL, iR1, iR2, iK, iEn, dFor, dLock, oAdd, oSub, oMul, oDiv, oMod, oLt, oLe, oGt, oGe, oEq, oNe, oIn, oNotIn, oIx, oIs, oIsNot, oI, SD.isNon, inB, ixB, ixC, eqB_int, eqB_bl, eqB_str, at_nat, atI_0, atI_1, atI_2, atI_3, atI_4, ixN_0, ixN_1, ixN_2, ixN_3, ixN_4, KeyC, lenB, SD.rLen, rInt, rMax2, mAppend, mExtend, mPop, mIndex, mIndexT, mUpdate, intsD, intsOf, bools, List.set_cons_zero, List.set_cons_succ, List.length_cons, List.length_nil, Bool.not_true, Bool.not_false, if_true, if_false, Bool.false_eq_true, true_and, and_true, Option.bind_some, List.getElem?_cons_succ, List.getElem?_cons_zero, decide_eq_true_eq, Bool.not_eq_true, gput_same, gput_gput, Option.map_some, ↓reduceIte, ite_true, String.reduceBEq, String.reduceEq, decide_true, decide_false, beq_self_eq_true, gput_ne k2]
    have lt : ((intsD' ls).take r).length + ((intsD' ls).drop (r + 1)).length ≤ sizeLine := by rw [List.length_take, List.length_drop]; omega
    refine ⟨lt, fun p3 hp3 => ?_⟩
    have k32 : p3 ≠ p2 := fun e => by rw [e, gput_same] at hp3; cases hp3
    rw [gput_ne k32] at hp3
    have k31 : p3 ≠ p1 := fun e => by rw [e, gput_same] at hp3; cases hp3
    rw [gput_ne k31] at hp3
    rw [gput_ne k2.symm] at hp2
    have new : ∀ {b : Addr} {m : MO}, G2 b = some m → b ≠ p1 ∧ b ≠ p2 ∧ b ≠ p3 := fun {b m} e => by
      have : ∃ m', gput G2 fo (.lst false (intsD' fs ++ [D.int (ls[r] : Nat)])) b = some m' := by
        by_cases h : b = fo
        · exact ⟨_, by rw [h, gput_same]⟩
        · exact ⟨m, by rw [gput_ne h]; exact e⟩
      obtain ⟨m', e'⟩ := this
      exact ⟨n1 e', fun z => (by rw [z, hp2] at e'; cases e'), fun z => (by rw [z, hp3] at e'; cases e')⟩
    obtain ⟨f1, f2, f3⟩ := new hF2
    have g2 : ∀ b m, G2 b = some m → b ≠ fo → gput (gput (gput (gput G2 fo (.lst false (intsD' fs ++ [D.int (ls[r] : Nat)]))) p1 (.lst false ((intsD' ls).take r))) p2 (.lst false ((intsD' ls).drop (r + 1)))) p3 (.lst false ((intsD' ls).take r ++ (intsD' ls).drop (r + 1))) b = some m := fun b m e h => by
      obtain ⟨b1, b2, b3⟩ := new e
      rw [gput_ne b3, gput_ne b2, gput_ne b1, gput_ne h]; exact e
    obtain ⟨q1, ⟨m1, hm1⟩, ⟨m2, hm2⟩⟩ := P2.ne
    have fo_a : a ≠ fo := hfa.symm
    have fo_s : sc ≠ fo := nfr hms hfo
    have eC : (intsD' ls).take r ++ (intsD' ls).drop (r + 1) = intsD' (ls.take r ++ ls.drop (r + 1)) := by simp [intsD', List.map_take, List.map_drop]
    have eF : intsD' fs ++ [D.int (ls[r] : Nat)] = intsD' (fs ++ [ls[r]]) := by simp [intsD']
    refine hnx (ls.take r ++ ls.drop (r + 1)).length (by rw [List.length_append, List.length_take, List.length_drop]; omega) _ _ ⟨p3, ls.take r ++ ls.drop (r + 1), fs ++ [ls[r]], _, rfl, ?_, ?_, ?_, ?_, rfl, fun b m e hb => ?_, ?_, f3⟩
    · rw [gput_same, eC]
    · rw [gput_ne f3, gput_ne f2, gput_ne f1, gput_same, eF]
    · exact P2.of (by rw [List.length_append, List.length_singleton]; omega) ((g2 a m1 hm1 fo_a).trans hm1.symm) ((g2 sc m2 hm2 fo_s).trans hm2.symm)
    · refine List.Perm.trans ?_ pm
      rw [List.append_assoc]
      refine List.Perm.append_left fs ?_
      have e5 : ls = ls.take r ++ ls[r] :: ls.drop (r + 1) := by rw [← List.drop_eq_getElem_cons hr, List.take_append_drop]
      conv => rhs; rw [e5]
      show (ls[r] :: (ls.take r ++ ls.drop (r + 1))).Perm _
      exact List.perm_middle.symm
    · have e2 : G2 b = some m := by rw [hf2 b hb]; exact hfr b m e hb
      exact g2 b m e2 (nfr e hfo)
    · have : G' p3 = none ∨ True := .inr trivial
      cases e : G p3 with
      | none => rfl
      | some m =>
        have hpa : p3 ≠ a := fun z => (new hm1).2.2 z.symm
        have e2 : G2 p3 = some m := by rw [hf2 p3 hpa]; exact hfr p3 m e hpa
        exact absurd rfl (new e2).2.2
  · have hls : ls = [] := by
      cases ls with
      | nil => rfl
      | cons x r => exact absurd (show (0 : Int) < ((intsD' (x :: r)).length : Nat) by simp [intsD']) hpos
    subst hls
    simp only [dVar, dC, dTup, dCons, dNil, dMat, dOp, dTest, dAnd, dOr, dNot, dAndV, dOrV, dNotV, dIf, dChain, asB, slot, wipe2, dSeq, dNext, dSet, dRet, dRetN, dDrop, dIfS, dBreak, dCont, dNever, dgName, dgNil, dgCons, dgTup, dAsg, dPar, dAug, dCall, dMeth, tyG, dIsi, isB, dLenQ, dTupQ, dAny, dAll, dMaxL, dLc, dDc, dMatD, dNil0, dYes, pdCopyG, plKeysG, dAugS, sSet, sPut, dSorSetT, dLenSet, oNo, oYes, dSlL, dSlT, dRepL, dIxL, dTpl, fE, qE, dLRng, dRevT, dNeg, iE, iL, iR1, iR2, iK, iEn, dFor, dLock, oAdd, oSub, oMul, oDiv, oMod, oLt, oLe, oGt, oGe, oEq, oNe, oIn, oNotIn, oIx, oIs, oIsNot, oI, SD.isNon, inB, ixB, ixC, eqB_int, eqB_bl, eqB_str, at_nat, atI_0, atI_1, atI_2, atI_3, atI_4, ixN_0, ixN_1, ixN_2, ixN_3, ixN_4, KeyC, lenB, SD.rLen, rInt, rMax2, mAppend, mExtend, mPop, mIndex, mIndexT, mUpdate, intsD, intsOf, bools, List.set_cons_zero, List.set_cons_succ, List.length_cons, List.length_nil, Bool.not_true, Bool.not_false, if_true, if_false, Bool.false_eq_true, true_and, and_true, Option.bind_some, List.getElem?_cons_succ, List.getElem?_cons_zero, decide_eq_true_eq, Bool.not_eq_true, gput_same, gput_gput, Option.map_some, ↓reduceIte, ite_true, String.reduceBEq, String.reduceEq, decide_true, decide_false, beq_self_eq_true, hF]
    intro p hp
    have hap : a ≠ p := fun z => by obtain ⟨_, ⟨m, e⟩, _⟩ := PG.ne; rw [z, hp] at e; cases e
    have hsp : sc ≠ p := fun z => by obtain ⟨_, _, ⟨m, e⟩⟩ := PG.ne; rw [z, hp] at e; cases e
    rw [List.append_nil] at pm
    have hGp : G p = none := by
      cases e : G p with
      | none => rfl
      | some m => rw [hfr p m e hap.symm] at hp; cases hp
    refine ⟨fun b => if b = a then G' a else if b = p then some (.tpl (intsD' fs)) else G b, fun b m e => ?_, q p fs _ (pm.nodup_iff.mpr List.nodup_range) (fun x => by rw [pm.mem_iff, List.mem_range]) ?_ ?_ (fun b h1 h2 => by rw [if_neg h1, if_neg h2]) hGp⟩
    · dsimp only at e
      split at e
      · rename_i h; rw [h, gput_ne hap]; exact e
      · rename_i h
        split at e
        · rename_i h2; rw [h2, gput_same]; exact e
        · rename_i h2; rw [gput_ne h2]; exact hfr b m e h
    · rw [if_neg hap.symm, if_pos rfl]
    · have hln : fs.length = n := by simpa using hlen
      refine PG.of (by omega) (if_pos rfl) ?_
      rw [if_neg hsa, if_neg hsp]
      rw [hms]; exact (hfr sc ms hms hsa).symm
end K43

set_option Elab.async false
set_option linter.all false
set_option maxRecDepth 100000
set_option maxHeartbeats 4000000
namespace K43
open PySem PySem.Spec PyProof.Rows L2 SD
theorem w_lgame {k : Nat} {a sc : Addr} {N many : Nat} {G : Gp} {Q : VK2} (P : PoolOk G a sc N) (h2 : 0 < many) (hm : many ≤ 2000) (hN : N + 6 * many < bigN)
    (q : ∀ (gm : List Spot) (G' : Gp), gm.length = many → GmOk gm → (∀ s ∈ gm, s.2.1 < 5) → (∀ s ∈ gm, s.2.2.length ≤ 3) → PoolOk G' a sc (N + 6 * many) → (∀ b, b ≠ a → G' b = G b) → Q (gameD gm) G') : WF T (k + 3) i__law_game [.ref a, .int many] G Q := by
  refine run rfl ?_
  show b__law_game (WF T (k + 2)) _ [some (.ref a), some (.int many), none, none, none, none] G
  unfold b__law_game
  have hsl : sizeLine = 16777216 := sizeLine_eq
  refine seq_i ?_
  simp only [dVar, dC, dTup, dCons, dNil, dMat, dOp, dTest, dAnd, dOr, dNot, dAndV, dOrV, dNotV, dIf, dChain, asB, slot, wipe2, dSeq, dNext, dSet, dRet, dRetN, dDrop, dIfS, dBreak, dCont, dNever, dgName, dgNil, dgCons, dgTup, dAsg, dPar, dAug, dCall, dMeth, tyG, dIsi, isB, dLenQ, dTupQ, dAny, dAll, dMaxL, dLc, dDc, dMatD, dNil0, dYes, pdCopyG, plKeysG, dAugS, sSet, sPut, dSorSetT, dLenSet, oNo, oYes, dSlL, dSlT, dRepL, dIxL, dTpl, fE, qE, dLRng, dRevT, dNeg, iE, iL, iR1, iR2, iK, iEn, dFor, dLock, oAdd, oSub, oMul, oDiv, oMod, oLt, oLe, oGt, oGe, oEq, oNe, oIn, oNotIn, oIx, oIs, oIsNot, oI, SD.isNon, inB, ixB, ixC, eqB_int, eqB_bl, eqB_str, at_nat, atI_0, atI_1, atI_2, atI_3, atI_4, ixN_0, ixN_1, ixN_2, ixN_3, ixN_4, KeyC, lenB, SD.rLen, rInt, rMax2, mAppend, mExtend, mPop, mIndex, mIndexT, mUpdate, intsD, intsOf, bools, List.set_cons_zero, List.set_cons_succ, List.length_cons, List.length_nil, Bool.not_true, Bool.not_false, if_true, if_false, Bool.false_eq_true, true_and, and_true, Option.bind_some, List.getElem?_cons_succ, List.getElem?_cons_zero, decide_eq_true_eq, Bool.not_eq_true, gput_same, gput_gput, Option.map_some, ↓reduceIte, ite_true, String.reduceBEq, String.reduceEq, decide_true, decide_false, beq_self_eq_true]
  intro rw hrw
  have hN' : ∀ x, x ≤ N + 6 * many → x < bigN := fun x hx => Nat.lt_of_le_of_lt hx hN
  clear hN
  obtain ⟨hsa, ⟨ma, hma⟩, ⟨ms, hms⟩⟩ := P.ne
  have nfr : ∀ {b c : Addr} {m : MO}, G b = some m → G c = none → b ≠ c := fun {b c m} e h z => by rw [z, h] at e; cases e
  have hra : rw ≠ a := (nfr hma hrw).symm
  refine ⟨by omega, ?_⟩
  have hn : (many : Int).toNat = many := by omega
  rw [hn]
  refine for_inv (ds := rngD 0 many) (fun pre δ G' => ∃ (gm : List Spot) (x3 x4 x5 : Option D), δ = [some (.ref a), some (.int many), some (.ref rw), x3, x4, x5] ∧ gm.length = pre.length ∧ (∀ s ∈ gm, s.1 < 2 ∧ s.2.1 < 5 ∧ s.2.2 ≠ [] ∧ s.2.2.length ≤ 3 ∧ ∀ e ∈ s.2.2, e < many) ∧
    G' rw = some (.lst false (gm.map spotD)) ∧ PoolOk G' a sc (N + 6 * pre.length) ∧ (∀ b m, G b = some m → b ≠ a → G' b = some m)) ?_ ?_ _ [] _ _ rfl
    ⟨[], _, _, _, rfl, rfl, fun _ h => by simp at h, gput_same, P.of (by omega) (gput_ne (nfr hma hrw)) (gput_ne (nfr hms hrw)), fun b m e _ => by rw [gput_ne (nfr e hrw)]; exact e⟩
  · rintro pre x post δ G' e ⟨gm, x3, x4, x5, rfl, hgl, hgm, hR, PG, hfr⟩
    refine ⟨trivial, fun nx hx => ?_⟩
    obtain ⟨hi, rfl⟩ := rngD_mem e
    simp only [dVar, dC, dTup, dCons, dNil, dMat, dOp, dTest, dAnd, dOr, dNot, dAndV, dOrV, dNotV, dIf, dChain, asB, slot, wipe2, dSeq, dNext, dSet, dRet, dRetN, dDrop, dIfS, dBreak, dCont, dNever, dgName, dgNil, dgCons, dgTup, dAsg, dPar, dAug, dCall, dMeth, tyG, dIsi, isB, dLenQ, dTupQ, dAny, dAll, dMaxL, dLc, dDc, dMatD, dNil0, dYes, pdCopyG, plKeysG, dAugS, sSet, sPut, dSorSetT, dLenSet, oNo, oYes, dSlL, dSlT, dRepL, dIxL, dTpl, fE, qE, dLRng, dRevT, dNeg, iE, iL, iR1, iR2, iK, iEn, dFor, dLock, oAdd, oSub, oMul, oDiv, oMod, oLt, oLe, oGt, oGe, oEq, oNe, oIn, oNotIn, oIx, oIs, oIsNot, oI, SD.isNon, inB, ixB, ixC, eqB_int, eqB_bl, eqB_str, at_nat, atI_0, atI_1, atI_2, atI_3, atI_4, ixN_0, ixN_1, ixN_2, ixN_3, ixN_4, KeyC, lenB, SD.rLen, rInt, rMax2, mAppend, mExtend, mPop, mIndex, mIndexT, mUpdate, intsD, intsOf, bools, List.set_cons_zero, List.set_cons_succ, List.length_cons, List.length_nil, Bool.not_true, Bool.not_false, if_true, if_false, Bool.false_eq_true, true_and, and_true, Option.bind_some, List.getElem?_cons_succ, List.getElem?_cons_zero, decide_eq_true_eq, Bool.not_eq_true, gput_same, gput_gput, Option.map_some, ↓reduceIte, ite_true, String.reduceBEq, String.reduceEq, decide_true, decide_false, beq_self_eq_true]
    refine w_draw PG (hN' _ (by omega)) (by omega) (by omega) fun r1 G1 h0 h1 P1 hf1 => ?_
    simp only [dVar, dC, dTup, dCons, dNil, dMat, dOp, dTest, dAnd, dOr, dNot, dAndV, dOrV, dNotV, dIf, dChain, asB, slot, wipe2, dSeq, dNext, dSet, dRet, dRetN, dDrop, dIfS, dBreak, dCont, dNever, dgName, dgNil, dgCons, dgTup, dAsg, dPar, dAug, dCall, dMeth, tyG, dIsi, isB, dLenQ, dTupQ, dAny, dAll, dMaxL, dLc, dDc, dMatD, dNil0, dYes, pdCopyG, plKeysG, dAugS, sSet, sPut, dSorSetT, dLenSet, oNo, oYes, dSlL, dSlT, dRepL, dIxL, dTpl, fE, qE, dLRng, dRevT, dNeg, iE, iL, iR1, iR2, iK, iEn, dFor, dLock, oAdd, oSub, oMul, oDiv, oMod, oLt, oLe, oGt, oGe, oEq, oNe, oIn, oNotIn, oIx, oIs, oIsNot, oI, SD.isNon, inB, ixB, ixC, eqB_int, eqB_bl, eqB_str, at_nat, atI_0, atI_1, atI_2, atI_3, atI_4, ixN_0, ixN_1, ixN_2, ixN_3, ixN_4, KeyC, lenB, SD.rLen, rInt, rMax2, mAppend, mExtend, mPop, mIndex, mIndexT, mUpdate, intsD, intsOf, bools, List.set_cons_zero, List.set_cons_succ, List.length_cons, List.length_nil, Bool.not_true, Bool.not_false, if_true, if_false, Bool.false_eq_true, true_and, and_true, Option.bind_some, List.getElem?_cons_succ, List.getElem?_cons_zero, decide_eq_true_eq, Bool.not_eq_true, gput_same, gput_gput, Option.map_some, ↓reduceIte, ite_true, String.reduceBEq, String.reduceEq, decide_true, decide_false, beq_self_eq_true]
    refine ⟨by omega, ?_⟩
    have hrl : (rngD 0 (1 + r1).toNat).length = (1 + r1).toNat := by simp [rngD]
    refine ⟨by rw [hrl]; omega, ?_⟩
    refine lc_inv (ds := rngD 0 (1 + r1).toNat) (fun pre2 acc G2 => ∃ es : List Nat, acc = intsD' es ∧ es.length = pre2.length ∧ (∀ e ∈ es, e < many) ∧ PoolOk G2 a sc (N + 6 * pre.length + 1 + pre2.length) ∧ ∀ b, b ≠ a → G2 b = G1 b) ?_ ?_ _ [] [] _ rfl ⟨[], rfl, rfl, fun _ h => by simp at h, P1.of (by simp) rfl rfl, fun _ _ => rfl⟩
    · rintro pre2 x2 post2 acc G2 e2 ⟨es, rfl, hel, hes, P2, hf2⟩
      refine ⟨trivial, fun R1 R0 r1' r0' => ?_⟩
      obtain ⟨hi2, rfl⟩ := rngD_mem e2
      show WF T (k + 2) i__law_draw [.ref a, .int many] G2 fun y G4 => R1 y G4
      have hb2 : pre2.length ≤ 2 := by omega
      refine w_draw P2 (hN' _ (by omega)) (by omega) (by omega) fun r2 G3 h2 h3 P3 hf3 => ?_
      obtain ⟨r2, rfl⟩ : ∃ j : Nat, r2 = (j : Int) := ⟨r2.toNat, by omega⟩
      refine r1' _ _ ⟨es ++ [r2], by simp [intsD'], by simp [hel], fun e he => ?_, P3.of (by simp; omega) rfl rfl, fun b hb => (hf3 b hb).trans (hf2 b hb)⟩
      rcases List.mem_append.mp he with h | h
      · exact hes e h
      · simp at h; omega
    · rintro acc G2 ⟨es, rfl, hel, hes, P2, hf2⟩
      refine ⟨trivial, fun p hp => ?_⟩
      rw [hrl] at hel P2
      obtain ⟨_, ⟨m1, hm1⟩, ⟨m2, hm2⟩⟩ := P2.ne
      have nf2 : ∀ {b : Addr} {m : MO}, G2 b = some m → b ≠ p := fun {b m} e z => by rw [z, hp] at e; cases e
      have hR2 : G2 rw = some (.lst false (gm.map spotD)) := by rw [hf2 rw hra, hf1 rw hra]; exact hR
      have hrp := nf2 hR2
      have hpa : p ≠ a := (nf2 hm1).symm
      simp only [dVar, dC, dTup, dCons, dNil, dMat, dOp, dTest, dAnd, dOr, dNot, dAndV, dOrV, dNotV, dIf, dChain, asB, slot, wipe2, dSeq, dNext, dSet, dRet, dRetN, dDrop, dIfS, dBreak, dCont, dNever, dgName, dgNil, dgCons, dgTup, dAsg, dPar, dAug, dCall, dMeth, tyG, dIsi, isB, dLenQ, dTupQ, dAny, dAll, dMaxL, dLc, dDc, dMatD, dNil0, dYes, pdCopyG, plKeysG, dAugS, sSet, sPut, dSorSetT, dLenSet, oNo, oYes, dSlL, dSlT, dRepL, dIxL, dTpl, fE, qE, dLRng, dRevT, dNeg, iE, iL, iR1, iR2, iK, iEn, dFor, dLock, oAdd, oSub, oMul, oDiv, oMod, oLt, oLe, oGt, oGe, oEq, oNe, oIn, oNotIn, oIx, oIs, oIsNot, oI, SD.isNon, inB, ixB, ixC, eqB_int, eqB_bl, eqB_str, at_nat, atI_0, atI_1, atI_2, atI_3, atI_4, ixN_0, ixN_1, ixN_2, ixN_3, ixN_4, KeyC, lenB, SD.rLen, rInt, rMax2, mAppend, mExtend, mPop, mIndex, mIndexT, mUpdate, intsD, intsOf, bools, List.set_cons_zero, List.set_cons_succ, List.length_cons, List.length_nil, Bool.not_true, Bool.not_false, if_true, if_false, Bool.false_eq_true, true_and, and_true, Option.bind_some, List.getElem?_cons_succ, List.getElem?_cons_zero, decide_eq_true_eq, Bool.not_eq_true, gput_same, gput_gput, Option.map_some, ↓reduceIte, ite_true, String.reduceBEq, String.reduceEq, decide_true, decide_false, beq_self_eq_true, gput_ne hrp, hR2]
      have P2' : PoolOk (gput G2 p (.lst false (intsD' es))) a sc (N + 6 * pre.length + 4) := P2.of (by omega) (gput_ne (nf2 hm1)) (gput_ne (nf2 hm2))
      refine w_draw P2' (hN' _ (by omega)) (by omega) (by omega) fun o G4 h4 h5 P4 hf4 => ?_
      refine w_draw P4 (hN' _ (by omega)) (by omega) (by omega) fun l G5 h6 h7 P5 hf5 => ?_
      obtain ⟨o, rfl⟩ : ∃ j : Nat, o = (j : Int) := ⟨o.toNat, by omega⟩
      obtain ⟨l, rfl⟩ : ∃ j : Nat, l = (j : Int) := ⟨l.toNat, by omega⟩
      have k5 : ∀ b, b ≠ a → G5 b = gput G2 p (.lst false (intsD' es)) b := fun b hb => (hf5 b hb).trans (hf4 b hb)
      have hp5 : G5 p = some (.lst false (intsD' es)) := by rw [k5 p hpa, gput_same]
      have hR5 : G5 rw = some (.lst false (gm.map spotD)) := by rw [k5 rw hra, gput_ne hrp]; exact hR2
      simp only [dVar, dC, dTup, dCons, dNil, dMat, dOp, dTest, dAnd, dOr, dNot, dAndV, dOrV, dNotV, dIf, dChain, asB, slot, wipe2, dSeq, dNext, dSet, dRet, dRetN, dDrop, dIfS, dBreak, dCont, dNever, dgName, dgNil, dgCons, dgTup, dAsg, dPar, dAug, dCall, dMeth, tyG, dIsi, isB, dLenQ, dTupQ, dAny, dAll, dMaxL, dLc, dDc, dMatD, dNil0, dYes, pdCopyG, plKeysG, dAugS, sSet, sPut, dSorSetT, dLenSet, oNo, oYes, dSlL, dSlT, dRepL, dIxL, dTpl, fE, qE, dLRng, dRevT, dNeg, iE, iL, iR1, iR2, iK, iEn, dFor, dLock, oAdd, oSub, oMul, oDiv, oMod, oLt, oLe, oGt, oGe, oEq, oNe, oIn, oNotIn, oIx, oIs, oIsNot, oI, SD.isNon, inB, ixB, ixC, eqB_int, eqB_bl, eqB_str, at_nat, atI_0, atI_1, atI_2, atI_3, atI_4, ixN_0, ixN_1, ixN_2, ixN_3, ixN_4, KeyC, lenB, SD.rLen, rInt, rMax2, mAppend, mExtend, mPop, mIndex, mIndexT, mUpdate, intsD, intsOf, bools, List.set_cons_zero, List.set_cons_succ, List.length_cons, List.length_nil, Bool.not_true, Bool.not_false, if_true, if_false, Bool.false_eq_true, true_and, and_true, Option.bind_some, List.getElem?_cons_succ, List.getElem?_cons_zero, decide_eq_true_eq, Bool.not_eq_true, gput_same, gput_gput, Option.map_some, ↓reduceIte, ite_true, String.reduceBEq, String.reduceEq, decide_true, decide_false, beq_self_eq_true, hp5, hR5]
      obtain ⟨_, ⟨m3, hm3⟩, ⟨m4, hm4⟩⟩ := P5.ne
      have hrs : sc ≠ rw := nfr hms hrw
      refine ⟨by rw [List.length_map]; omega, hx _ _ ⟨gm ++ [(o, l, es)], _, _, _, rfl, by rw [List.length_append, List.length_append, hgl]; rfl, fun s hs => ?_, ?_, ?_, fun b m e hb => ?_⟩⟩
      · rcases List.mem_append.mp hs with h | h
        · exact hgm s h
        · simp at h; subst h
          exact ⟨by show o < 2; omega, by show l < 5; omega, fun z => by have : es = [] := z; rw [this] at hel; simp at hel; omega, by show es.length ≤ 3; omega, hes⟩
      · rw [gput_same, List.map_append]; rfl
      · exact P5.of (by rw [List.length_append, List.length_singleton]; omega) (gput_ne hra.symm) (gput_ne hrs)
      · have e2 : G2 b = some m := by rw [hf2 b hb, hf1 b hb]; exact hfr b m e hb
        rw [gput_ne (nfr e hrw), k5 b hb, gput_ne (nf2 e2)]; exact e2
  · rintro δ G' ⟨gm, x3, x4, x5, rfl, hgl, hgm, hR, PG, hfr⟩
    refine ⟨trivial, ?_⟩
    simp only [dVar, dC, dTup, dCons, dNil, dMat, dOp, dTest, dAnd, dOr, dNot, dAndV, dOrV, dNotV, dIf, dChain, asB, slot, wipe2, dSeq, dNext, dSet, dRet, dRetN, dDrop, dIfS, dBreak, dCont, dNever, dgName, dgNil, dgCons, dgTup, dAsg, dPar, dAug, dCall, dMeth, tyG, dIsi, isB, dLenQ, dTupQ, dAny, dAll, dMaxL, dLc, dDc, dMatD, dNil0, dYes, pdCopyG, plKeysG, dAugS, sSet, sPut, dSorSetT, dLenSet, oNo, oYes, dSlL, dSlT, dRepL, dIxL, dTpl, fE, qE, dLRng, dRevT, dNeg, iE, iL, iR1, iR2, iK, iEn, dFor, dLock, oAdd, oSub, oMul, oDiv, oMod, oLt, oLe, oGt, oGe, oEq, oNe, oIn, oNotIn, oIx, oIs, oIsNot, oI, SD.isNon, inB, ixB, ixC, eqB_int, eqB_bl, eqB_str, at_nat, atI_0, atI_1, atI_2, atI_3, atI_4, ixN_0, ixN_1, ixN_2, ixN_3, ixN_4, KeyC, lenB, SD.rLen, rInt, rMax2, mAppend, mExtend, mPop, mIndex, mIndexT, mUpdate, intsD, intsOf, bools, List.set_cons_zero, List.set_cons_succ, List.length_cons, List.length_nil, Bool.not_true, Bool.not_false, if_true, if_false, Bool.false_eq_true, true_and, and_true, Option.bind_some, List.getElem?_cons_succ, List.getElem?_cons_zero, decide_eq_true_eq, Bool.not_eq_true, gput_same, gput_gput, Option.map_some, ↓reduceIte, ite_true, String.reduceBEq, String.reduceEq, decide_true, decide_false, beq_self_eq_true, hR]
    have hrl : (rngD 0 many).length = many := by simp [rngD]
    rw [hrl] at hgl PG
    have at_ : ∀ (k : Nat) (s : Spot), gm[k]? = some s → s ∈ gm := fun k s h => List.mem_of_getElem? h
    refine ⟨fun b => if b = a then G' a else G b, fun b m e => ?_, q gm _ hgl ⟨by omega, fun k s h => (hgm s (at_ k s h)).1, fun k s h e he => by rw [hgl]; exact (hgm s (at_ k s h)).2.2.2.2 e he, fun k s h => by have := (hgm s (at_ k s h)).2.2.2.1; omega, fun k s h => (hgm s (at_ k s h)).2.2.1⟩
      (fun s hs => (hgm s hs).2.1) (fun s hs => (hgm s hs).2.2.2.1) (PG.of (Nat.le_refl _) (if_pos rfl) ?_) fun b hb => if_neg hb⟩
    · dsimp only at e
      split at e
      · rename_i h; rw [h]; exact e
      · rename_i h; exact hfr b m e h
    · rw [if_neg hsa, hms]; exact (hfr sc ms hms hsa).symm
end K43

set_option Elab.async false
set_option linter.all false
set_option maxRecDepth 100000
set_option maxHeartbeats 4000000
namespace K43
open PySem PySem.Spec PyProof.Rows L2 SD
theorem levs_ints (es : List Nat) : levs (intsD' es) = 0 := by
  induction es with
  | nil => rfl
  | cons x r ih => show max (lev (D.int (x : Nat))) (levs (intsD' r)) = 0; rw [ih]; rfl
theorem idx_ints {ls : List Nat} {g : Nat} (h : g ∈ ls) : idx (intsD' ls) (.int g) = some (ls.idxOf g) := by
  unfold idx
  induction ls with
  | nil => cases h
  | cons x r ih =>
    show ((D.int (x : Nat)) :: intsD' r).findIdx? _ = _
    rw [List.findIdx?_cons, List.idxOf_cons]
    by_cases e : x = g
    · subst e; simp
    · have e' : ¬ D.int (x : Nat) = D.int (g : Nat) := fun z => e (intN_inj z)
      have hm : g ∈ r := (List.mem_cons.mp h).resolve_left fun z => e z.symm
      rw [decide_eq_false e', ih hm]
      have : (x == g) = false := by simpa using e
      simp [this]
theorem mem_ints {ls : List Nat} {g : Nat} : D.int (g : Nat) ∈ intsD' ls ↔ g ∈ ls := by
  unfold intsD'
  constructor
  · intro h; obtain ⟨z, hz, ez⟩ := List.mem_map.mp h; rw [← intN_inj ez]; exact hz
  · intro h; exact List.mem_map.mpr ⟨g, h, rfl⟩
def tdD : Option Nat → D
  | none => .non
  | some j => .int (j : Nat)
def partG (gm : List Spot) (ls : List Nat) (td : Nat → Option Nat) : List Spot :=
  ls.map fun k => ((gmOf gm).own k, (gmOf gm).lv k, match td k with | some j => [ls.idxOf j] | none => (((gmOf gm).E k).filter fun g => decide (g ∈ ls)).map fun g => ls.idxOf g)
theorem w_partd {k : Nat} {gm : List Spot} (ok : GmOk gm) {sp tl : Addr} {ls : List Nat} {td : Nat → Option Nat} (hls : ∀ k ∈ ls, k < gm.length) (hll : ls.length ≤ 2000) (htd : ∀ k ∈ ls, ∀ j, td k = some j → j ∈ ls) {G : Gp} {Q : VK2} (hsp : G sp = some (.lst false (intsD' ls)))
    (htl : G tl = some (.lst false ((List.range gm.length).map fun k => tdD (td k)))) (q : Q (gameD (partG gm ls td)) G) : WF T (k + 1) i__law_part [gameD gm, .ref sp, .ref tl] G Q := by
  refine run rfl ?_
  show b__law_part (WF T k) _ [some (gameD gm), some (.ref sp), some (.ref tl), none, none, none, none, none, none, none] G
  unfold b__law_part
  have hsl : sizeLine = 16777216 := sizeLine_eq
  refine seq_i ?_
  simp only [dVar, dC, dTup, dCons, dNil, dMat, dOp, dTest, dAnd, dOr, dNot, dAndV, dOrV, dNotV, dIf, dChain, asB, slot, wipe2, dSeq, dNext, dSet, dRet, dRetN, dDrop, dIfS, dBreak, dCont, dNever, dgName, dgNil, dgCons, dgTup, dAsg, dPar, dAug, dCall, dMeth, tyG, dIsi, isB, dLenQ, dTupQ, dAny, dAll, dMaxL, dLc, dDc, dMatD, dNil0, dYes, pdCopyG, plKeysG, dAugS, sSet, sPut, dSorSetT, dLenSet, oNo, oYes, dSlL, dSlT, dRepL, dIxL, dTpl, fE, qE, dLRng, dRevT, dNeg, iE, iL, iR1, iR2, iK, iEn, dFor, dLock, oAdd, oSub, oMul, oDiv, oMod, oLt, oLe, oGt, oGe, oEq, oNe, oIn, oNotIn, oIx, oIs, oIsNot, oI, SD.isNon, inB, ixB, ixC, eqB_int, eqB_bl, eqB_str, at_nat, atI_0, atI_1, atI_2, atI_3, atI_4, ixN_0, ixN_1, ixN_2, ixN_3, ixN_4, KeyC, lenB, SD.rLen, rInt, rMax2, mAppend, mExtend, mPop, mIndex, mIndexT, mUpdate, intsD, intsOf, bools, List.set_cons_zero, List.set_cons_succ, List.length_cons, List.length_nil, Bool.not_true, Bool.not_false, if_true, if_false, Bool.false_eq_true, true_and, and_true, Option.bind_some, List.getElem?_cons_succ, List.getElem?_cons_zero, decide_eq_true_eq, Bool.not_eq_true, gput_same, gput_gput, Option.map_some, ↓reduceIte, ite_true, String.reduceBEq, String.reduceEq, decide_true, decide_false, beq_self_eq_true]
  intro r hr
  have hrs : sp ≠ r := fun e => by rw [e, hr] at hsp; cases hsp
  have hrt : tl ≠ r := fun e => by rw [e, hr] at htl; cases htl
  simp only [dVar, dC, dTup, dCons, dNil, dMat, dOp, dTest, dAnd, dOr, dNot, dAndV, dOrV, dNotV, dIf, dChain, asB, slot, wipe2, dSeq, dNext, dSet, dRet, dRetN, dDrop, dIfS, dBreak, dCont, dNever, dgName, dgNil, dgCons, dgTup, dAsg, dPar, dAug, dCall, dMeth, tyG, dIsi, isB, dLenQ, dTupQ, dAny, dAll, dMaxL, dLc, dDc, dMatD, dNil0, dYes, pdCopyG, plKeysG, dAugS, sSet, sPut, dSorSetT, dLenSet, oNo, oYes, dSlL, dSlT, dRepL, dIxL, dTpl, fE, qE, dLRng, dRevT, dNeg, iE, iL, iR1, iR2, iK, iEn, dFor, dLock, oAdd, oSub, oMul, oDiv, oMod, oLt, oLe, oGt, oGe, oEq, oNe, oIn, oNotIn, oIx, oIs, oIsNot, oI, SD.isNon, inB, ixB, ixC, eqB_int, eqB_bl, eqB_str, at_nat, atI_0, atI_1, atI_2, atI_3, atI_4, ixN_0, ixN_1, ixN_2, ixN_3, ixN_4, KeyC, lenB, SD.rLen, rInt, rMax2, mAppend, mExtend, mPop, mIndex, mIndexT, mUpdate, intsD, intsOf, bools, List.set_cons_zero, List.set_cons_succ, List.length_cons, List.length_nil, Bool.not_true, Bool.not_false, if_true, if_false, Bool.false_eq_true, true_and, and_true, Option.bind_some, List.getElem?_cons_succ, List.getElem?_cons_zero, decide_eq_true_eq, Bool.not_eq_true, gput_same, gput_gput, Option.map_some, ↓reduceIte, ite_true, String.reduceBEq, String.reduceEq, decide_true, decide_false, beq_self_eq_true, gput_ne hrs, hsp]
  refine for_inv (ds := intsD' ls) (fun pre δ G' => ∃ x4 x5 x6 x7 x8 x9, δ = [some (gameD gm), some (.ref sp), some (.ref tl), some (.ref r), x4, x5, x6, x7, x8, x9] ∧ G' r = some (.lst false (((partG gm ls td).take pre.length).map spotD)) ∧ SD.sub G G') ?_ ?_ _ [] _ _ rfl
    ⟨_, _, _, _, _, _, rfl, gput_same, SD.sub.refl.put hr⟩
  · rintro pre x post δ G' e ⟨x4, x5, x6, x7, x8, x9, rfl, hR, hs⟩
    refine ⟨hs _ _ hsp, fun nx hx => ?_⟩
    have hxm : x ∈ intsD' ls := by rw [e]; simp
    obtain ⟨j, hj, rfl⟩ := List.mem_map.mp hxm
    obtain ⟨s, hsj, hown, hlv, hE⟩ := gm_at (hls j hj)
    have hs1 := hs _ _ hsp
    have ht1 := hs _ _ htl
    unfold gameD
    simp only [dVar, dC, dTup, dCons, dNil, dMat, dOp, dTest, dAnd, dOr, dNot, dAndV, dOrV, dNotV, dIf, dChain, asB, slot, wipe2, dSeq, dNext, dSet, dRet, dRetN, dDrop, dIfS, dBreak, dCont, dNever, dgName, dgNil, dgCons, dgTup, dAsg, dPar, dAug, dCall, dMeth, tyG, dIsi, isB, dLenQ, dTupQ, dAny, dAll, dMaxL, dLc, dDc, dMatD, dNil0, dYes, pdCopyG, plKeysG, dAugS, sSet, sPut, dSorSetT, dLenSet, oNo, oYes, dSlL, dSlT, dRepL, dIxL, dTpl, fE, qE, dLRng, dRevT, dNeg, iE, iL, iR1, iR2, iK, iEn, dFor, dLock, oAdd, oSub, oMul, oDiv, oMod, oLt, oLe, oGt, oGe, oEq, oNe, oIn, oNotIn, oIx, oIs, oIsNot, oI, SD.isNon, inB, ixB, ixC, eqB_int, eqB_bl, eqB_str, at_nat, atI_0, atI_1, atI_2, atI_3, atI_4, ixN_0, ixN_1, ixN_2, ixN_3, ixN_4, KeyC, lenB, SD.rLen, rInt, rMax2, mAppend, mExtend, mPop, mIndex, mIndexT, mUpdate, intsD, intsOf, bools, List.set_cons_zero, List.set_cons_succ, List.length_cons, List.length_nil, Bool.not_true, Bool.not_false, if_true, if_false, Bool.false_eq_true, true_and, and_true, Option.bind_some, List.getElem?_cons_succ, List.getElem?_cons_zero, decide_eq_true_eq, Bool.not_eq_true, gput_same, gput_gput, Option.map_some, ↓reduceIte, ite_true, String.reduceBEq, String.reduceEq, decide_true, decide_false, beq_self_eq_true, List.getElem?_map, hsj, spotD]
    have few := ok.few _ _ hsj
    refine ⟨by rw [intsD', List.length_map]; omega, ?_⟩
    refine lc_pure (fun d => match d with | .int i => if i.toNat ∈ ls then some (.int (ls.idxOf i.toNat : Nat)) else none | _ => none) (by trivial) _ [] (fun x hx R1 R0 r1 => ?_) ?_
    · obtain ⟨g, hg, rfl⟩ := List.mem_map.mp hx
      simp only [Int.toNat_natCast] at r1
      have hl1 : lev (D.int (g : Nat)) ≤ 60 ∧ levs (intsD' ls) ≤ 59 := ⟨by simp [lev], by rw [levs_ints]; decide⟩
      simp only [dVar, dC, dTup, dCons, dNil, dMat, dOp, dTest, dAnd, dOr, dNot, dAndV, dOrV, dNotV, dIf, dChain, asB, slot, wipe2, dSeq, dNext, dSet, dRet, dRetN, dDrop, dIfS, dBreak, dCont, dNever, dgName, dgNil, dgCons, dgTup, dAsg, dPar, dAug, dCall, dMeth, tyG, dIsi, isB, dLenQ, dTupQ, dAny, dAll, dMaxL, dLc, dDc, dMatD, dNil0, dYes, pdCopyG, plKeysG, dAugS, sSet, sPut, dSorSetT, dLenSet, oNo, oYes, dSlL, dSlT, dRepL, dIxL, dTpl, fE, qE, dLRng, dRevT, dNeg, iE, iL, iR1, iR2, iK, iEn, dFor, dLock, oAdd, oSub, oMul, oDiv, oMod, oLt, oLe, oGt, oGe, oEq, oNe, oIn, oNotIn, oIx, oIs, oIsNot, oI, SD.isNon, inB, ixB, ixC, eqB_int, eqB_bl, eqB_str, at_nat, atI_0, atI_1, atI_2, atI_3, atI_4, ixN_0, ixN_1, ixN_2, ixN_3, ixN_4, KeyC, lenB, SD.rLen, rInt, rMax2, mAppend, mExtend, mPop, mIndex, mIndexT, mUpdate, intsD, intsOf, bools, List.set_cons_zero, List.set_cons_succ, List.length_cons, List.length_nil, Bool.not_true, Bool.not_false, if_true, if_false, Bool.false_eq_true, true_and, and_true, Option.bind_some, List.getElem?_cons_succ, List.getElem?_cons_zero, decide_eq_true_eq, Bool.not_eq_true, gput_same, gput_gput, Option.map_some, ↓reduceIte, ite_true, String.reduceBEq, String.reduceEq, decide_true, decide_false, beq_self_eq_true, hs1]
      rw [if_pos hl1]
      by_cases h : g ∈ ls
      · rw [if_pos h] at r1
        simp only [dVar, dC, dTup, dCons, dNil, dMat, dOp, dTest, dAnd, dOr, dNot, dAndV, dOrV, dNotV, dIf, dChain, asB, slot, wipe2, dSeq, dNext, dSet, dRet, dRetN, dDrop, dIfS, dBreak, dCont, dNever, dgName, dgNil, dgCons, dgTup, dAsg, dPar, dAug, dCall, dMeth, tyG, dIsi, isB, dLenQ, dTupQ, dAny, dAll, dMaxL, dLc, dDc, dMatD, dNil0, dYes, pdCopyG, plKeysG, dAugS, sSet, sPut, dSorSetT, dLenSet, oNo, oYes, dSlL, dSlT, dRepL, dIxL, dTpl, fE, qE, dLRng, dRevT, dNeg, iE, iL, iR1, iR2, iK, iEn, dFor, dLock, oAdd, oSub, oMul, oDiv, oMod, oLt, oLe, oGt, oGe, oEq, oNe, oIn, oNotIn, oIx, oIs, oIsNot, oI, SD.isNon, inB, ixB, ixC, eqB_int, eqB_bl, eqB_str, at_nat, atI_0, atI_1, atI_2, atI_3, atI_4, ixN_0, ixN_1, ixN_2, ixN_3, ixN_4, KeyC, lenB, SD.rLen, rInt, rMax2, mAppend, mExtend, mPop, mIndex, mIndexT, mUpdate, intsD, intsOf, bools, List.set_cons_zero, List.set_cons_succ, List.length_cons, List.length_nil, Bool.not_true, Bool.not_false, if_true, if_false, Bool.false_eq_true, true_and, and_true, Option.bind_some, List.getElem?_cons_succ, List.getElem?_cons_zero, decide_eq_true_eq, Bool.not_eq_true, gput_same, gput_gput, Option.map_some, ↓reduceIte, ite_true, String.reduceBEq, String.reduceEq, decide_true, decide_false, beq_self_eq_true, decide_eq_true (mem_ints.mpr h)]
        refine ⟨hl1, ?_⟩
        rw [idx_ints h]; exact r1
      · rw [if_neg h] at r1
        simp only [dVar, dC, dTup, dCons, dNil, dMat, dOp, dTest, dAnd, dOr, dNot, dAndV, dOrV, dNotV, dIf, dChain, asB, slot, wipe2, dSeq, dNext, dSet, dRet, dRetN, dDrop, dIfS, dBreak, dCont, dNever, dgName, dgNil, dgCons, dgTup, dAsg, dPar, dAug, dCall, dMeth, tyG, dIsi, isB, dLenQ, dTupQ, dAny, dAll, dMaxL, dLc, dDc, dMatD, dNil0, dYes, pdCopyG, plKeysG, dAugS, sSet, sPut, dSorSetT, dLenSet, oNo, oYes, dSlL, dSlT, dRepL, dIxL, dTpl, fE, qE, dLRng, dRevT, dNeg, iE, iL, iR1, iR2, iK, iEn, dFor, dLock, oAdd, oSub, oMul, oDiv, oMod, oLt, oLe, oGt, oGe, oEq, oNe, oIn, oNotIn, oIx, oIs, oIsNot, oI, SD.isNon, inB, ixB, ixC, eqB_int, eqB_bl, eqB_str, at_nat, atI_0, atI_1, atI_2, atI_3, atI_4, ixN_0, ixN_1, ixN_2, ixN_3, ixN_4, KeyC, lenB, SD.rLen, rInt, rMax2, mAppend, mExtend, mPop, mIndex, mIndexT, mUpdate, intsD, intsOf, bools, List.set_cons_zero, List.set_cons_succ, List.length_cons, List.length_nil, Bool.not_true, Bool.not_false, if_true, if_false, Bool.false_eq_true, true_and, and_true, Option.bind_some, List.getElem?_cons_succ, List.getElem?_cons_zero, decide_eq_true_eq, Bool.not_eq_true, gput_same, gput_gput, Option.map_some, ↓reduceIte, ite_true, String.reduceBEq, String.reduceEq, decide_true, decide_false, beq_self_eq_true, decide_eq_false (fun z => h (mem_ints.mp z))]
        exact r1
    · have e1 : ([] : List D) ++ (intsD' s.2.2).filterMap (fun d => match d with | .int i => if i.toNat ∈ ls then some (.int (ls.idxOf i.toNat : Nat)) else none | _ => none) = intsD' ((s.2.2.filter fun g => decide (g ∈ ls)).map fun g => ls.idxOf g) := by
        rw [List.nil_append]
        have key : ∀ l : List Nat, (intsD' l).filterMap (fun d => match d with | .int i => if i.toNat ∈ ls then some (.int (ls.idxOf i.toNat : Nat)) else none | _ => none) = intsD' ((l.filter fun g => decide (g ∈ ls)).map fun g => ls.idxOf g) := by
          intro l
          induction l with
          | nil => rfl
          | cons x r ih =>
            show ((D.int (x : Nat)) :: intsD' r).filterMap _ = _
            rw [List.filterMap_cons, List.filter_cons, ih]
            simp only [Int.toNat_natCast]
            by_cases h : x ∈ ls
            · rw [if_pos h, if_pos (by simpa using h)]; rfl
            · rw [if_neg h, if_neg (by simpa using h)]
        exact key _
      rw [e1]
      intro p hp
      have n1 : ∀ {b : Addr} {m : MO}, G' b = some m → b ≠ p := fun {b m} e z => by rw [z, hp] at e; cases e
      have hjn := hls j hj
      have etd : ((List.range gm.length).map fun k => tdD (td k))[j]? = some (tdD (td j)) := by simp [hjn]
      have hpl : (((partG gm ls td).take pre.length).map spotD).length < sizeLine := by
        rw [List.length_map, List.length_take]
        have : (partG gm ls td).length = ls.length := by rw [partG, List.length_map]
        omega
      have hidx : ls[pre.length]? = some j := by
        have h1 : (intsD' ls)[pre.length]? = some (.int (j : Nat)) := by rw [e]; simp
        rw [intsD', List.getElem?_map] at h1
        obtain ⟨z, hz, ez⟩ := Option.map_eq_some_iff.mp h1
        rw [hz, intN_inj ez]
      have step : ∀ x : D, ((partG gm ls td).take pre.length).map spotD ++ [spotD (s.1, s.2.1, match td j with | some i => [ls.idxOf i] | none => (s.2.2.filter fun g => decide (g ∈ ls)).map fun g => ls.idxOf g)] = ((partG gm ls td).take (pre ++ [x]).length).map spotD := fun x => by
        rw [List.length_append, List.length_singleton, List.take_add_one]
        have : (partG gm ls td)[pre.length]? = some (s.1, s.2.1, match td j with | some i => [ls.idxOf i] | none => (s.2.2.filter fun g => decide (g ∈ ls)).map fun g => ls.idxOf g) := by
          rw [partG, List.getElem?_map, hidx, Option.map_some, hown, hlv, hE]
        rw [this, List.map_append]; rfl
      simp only [dVar, dC, dTup, dCons, dNil, dMat, dOp, dTest, dAnd, dOr, dNot, dAndV, dOrV, dNotV, dIf, dChain, asB, slot, wipe2, dSeq, dNext, dSet, dRet, dRetN, dDrop, dIfS, dBreak, dCont, dNever, dgName, dgNil, dgCons, dgTup, dAsg, dPar, dAug, dCall, dMeth, tyG, dIsi, isB, dLenQ, dTupQ, dAny, dAll, dMaxL, dLc, dDc, dMatD, dNil0, dYes, pdCopyG, plKeysG, dAugS, sSet, sPut, dSorSetT, dLenSet, oNo, oYes, dSlL, dSlT, dRepL, dIxL, dTpl, fE, qE, dLRng, dRevT, dNeg, iE, iL, iR1, iR2, iK, iEn, dFor, dLock, oAdd, oSub, oMul, oDiv, oMod, oLt, oLe, oGt, oGe, oEq, oNe, oIn, oNotIn, oIx, oIs, oIsNot, oI, SD.isNon, inB, ixB, ixC, eqB_int, eqB_bl, eqB_str, at_nat, atI_0, atI_1, atI_2, atI_3, atI_4, ixN_0, ixN_1, ixN_2, ixN_3, ixN_4, KeyC, lenB, SD.rLen, rInt, rMax2, mAppend, mExtend, mPop, mIndex, mIndexT, mUpdate, intsD, intsOf, bools, List.set_cons_zero, List.set_cons_succ, List.length_cons, List.length_nil, Bool.not_true, Bool.not_false, if_true, if_false, Bool.false_eq_true, true_and, and_true, Option.bind_some, List.getElem?_cons_succ, List.getElem?_cons_zero, decide_eq_true_eq, Bool.not_eq_true, gput_same, gput_gput, Option.map_some, ↓reduceIte, ite_true, String.reduceBEq, String.reduceEq, decide_true, decide_false, beq_self_eq_true, gput_ne (n1 hR), hR, gput_ne (n1 ht1), ht1, etd, gput_ne (n1 hs1), hs1]
      cases ht : td j with
      | none =>
        simp only [dVar, dC, dTup, dCons, dNil, dMat, dOp, dTest, dAnd, dOr, dNot, dAndV, dOrV, dNotV, dIf, dChain, asB, slot, wipe2, dSeq, dNext, dSet, dRet, dRetN, dDrop, dIfS, dBreak, dCont, dNever, dgName, dgNil, dgCons, dgTup, dAsg, dPar, dAug, dCall, dMeth, tyG, dIsi, isB, dLenQ, dTupQ, dAny, dAll, dMaxL, dLc, dDc, dMatD, dNil0, dYes, pdCopyG, plKeysG, dAugS, sSet, sPut, dSorSetT, dLenSet, oNo, oYes, dSlL, dSlT, dRepL, dIxL, dTpl, fE, qE, dLRng, dRevT, dNeg, iE, iL, iR1, iR2, iK, iEn, dFor, dLock, oAdd, oSub, oMul, oDiv, oMod, oLt, oLe, oGt, oGe, oEq, oNe, oIn, oNotIn, oIx, oIs, oIsNot, oI, SD.isNon, inB, ixB, ixC, eqB_int, eqB_bl, eqB_str, at_nat, atI_0, atI_1, atI_2, atI_3, atI_4, ixN_0, ixN_1, ixN_2, ixN_3, ixN_4, KeyC, lenB, SD.rLen, rInt, rMax2, mAppend, mExtend, mPop, mIndex, mIndexT, mUpdate, intsD, intsOf, bools, List.set_cons_zero, List.set_cons_succ, List.length_cons, List.length_nil, Bool.not_true, Bool.not_false, if_true, if_false, Bool.false_eq_true, true_and, and_true, Option.bind_some, List.getElem?_cons_succ, List.getElem?_cons_zero, decide_eq_true_eq, Bool.not_eq_true, gput_same, gput_gput, Option.map_some, ↓reduceIte, ite_true, String.reduceBEq, String.reduceEq, decide_true, decide_false, beq_self_eq_true, tdD]
        refine ⟨hpl, hx _ _ ⟨_, _, _, _, _, _, rfl, ?_, ?_⟩⟩
        · have := step (.int (j : Nat))
          rw [ht] at this
          rw [gput_same, ← this]; rfl
        · exact fun c n e => by
            have h1 : c ≠ r := fun z => by rw [z, hr] at e; cases e
            rw [gput_ne h1, gput_ne (n1 (hs _ _ e))]; exact hs _ _ e
      | some i =>
        have hi := htd j hj i ht
        have hl1 : lev (D.int (i : Nat)) ≤ 60 ∧ levs (intsD' ls) ≤ 59 := ⟨by simp [lev], by rw [levs_ints]; decide⟩
        simp only [dVar, dC, dTup, dCons, dNil, dMat, dOp, dTest, dAnd, dOr, dNot, dAndV, dOrV, dNotV, dIf, dChain, asB, slot, wipe2, dSeq, dNext, dSet, dRet, dRetN, dDrop, dIfS, dBreak, dCont, dNever, dgName, dgNil, dgCons, dgTup, dAsg, dPar, dAug, dCall, dMeth, tyG, dIsi, isB, dLenQ, dTupQ, dAny, dAll, dMaxL, dLc, dDc, dMatD, dNil0, dYes, pdCopyG, plKeysG, dAugS, sSet, sPut, dSorSetT, dLenSet, oNo, oYes, dSlL, dSlT, dRepL, dIxL, dTpl, fE, qE, dLRng, dRevT, dNeg, iE, iL, iR1, iR2, iK, iEn, dFor, dLock, oAdd, oSub, oMul, oDiv, oMod, oLt, oLe, oGt, oGe, oEq, oNe, oIn, oNotIn, oIx, oIs, oIsNot, oI, SD.isNon, inB, ixB, ixC, eqB_int, eqB_bl, eqB_str, at_nat, atI_0, atI_1, atI_2, atI_3, atI_4, ixN_0, ixN_1, ixN_2, ixN_3, ixN_4, KeyC, lenB, SD.rLen, rInt, rMax2, mAppend, mExtend, mPop, mIndex, mIndexT, mUpdate, intsD, intsOf, bools, List.set_cons_zero, List.set_cons_succ, List.length_cons, List.length_nil, Bool.not_true, Bool.not_false, if_true, if_false, Bool.false_eq_true, true_and, and_true, Option.bind_some, List.getElem?_cons_succ, List.getElem?_cons_zero, decide_eq_true_eq, Bool.not_eq_true, gput_same, gput_gput, Option.map_some, ↓reduceIte, ite_true, String.reduceBEq, String.reduceEq, decide_true, decide_false, beq_self_eq_true, tdD]
        refine ⟨hl1, ?_⟩
        rw [idx_ints hi]
        simp only [dVar, dC, dTup, dCons, dNil, dMat, dOp, dTest, dAnd, dOr, dNot, dAndV, dOrV, dNotV, dIf, dChain, asB, slot, wipe2, dSeq, dNext, dSet, dRet, dRetN, dDrop, dIfS, dBreak, dCont, dNever, dgName, dgNil, dgCons, dgTup, dAsg, dPar, dAug, dCall, dMeth, tyG, dIsi, isB, dLenQ, dTupQ, dAny, dAll, dMaxL, dLc, dDc, dMatD, dNil0, dYes, pdCopyG, plKeysG, dAugS, sSet, sPut, dSorSetT, dLenSet, oNo, oYes, dSlL, dSlT, dRepL, dIxL, dTpl, fE, qE, dLRng, dRevT, dNeg, iE, iL, iR1, iR2, iK, iEn, dFor, dLock, oAdd, oSub, oMul, oDiv, oMod, oLt, oLe, oGt, oGe, oEq, oNe, oIn, oNotIn, oIx, oIs, oIsNot, oI, SD.isNon, inB, ixB, ixC, eqB_int, eqB_bl, eqB_str, at_nat, atI_0, atI_1, atI_2, atI_3, atI_4, ixN_0, ixN_1, ixN_2, ixN_3, ixN_4, KeyC, lenB, SD.rLen, rInt, rMax2, mAppend, mExtend, mPop, mIndex, mIndexT, mUpdate, intsD, intsOf, bools, List.set_cons_zero, List.set_cons_succ, List.length_cons, List.length_nil, Bool.not_true, Bool.not_false, if_true, if_false, Bool.false_eq_true, true_and, and_true, Option.bind_some, List.getElem?_cons_succ, List.getElem?_cons_zero, decide_eq_true_eq, Bool.not_eq_true, gput_same, gput_gput, Option.map_some, ↓reduceIte, ite_true, String.reduceBEq, String.reduceEq, decide_true, decide_false, beq_self_eq_true, gput_ne (n1 hR), hR]
        refine ⟨hpl, hx _ _ ⟨_, _, _, _, _, _, rfl, ?_, ?_⟩⟩
        · have := step (.int (j : Nat))
          rw [ht] at this
          rw [gput_same, ← this]; rfl
        · exact fun c n e => by
            have h1 : c ≠ r := fun z => by rw [z, hr] at e; cases e
            rw [gput_ne h1, gput_ne (n1 (hs _ _ e))]; exact hs _ _ e
  · rintro δ G' ⟨x4, x5, x6, x7, x8, x9, rfl, hR, hs⟩
    refine ⟨hs _ _ hsp, ?_⟩
    simp only [dVar, dC, dTup, dCons, dNil, dMat, dOp, dTest, dAnd, dOr, dNot, dAndV, dOrV, dNotV, dIf, dChain, asB, slot, wipe2, dSeq, dNext, dSet, dRet, dRetN, dDrop, dIfS, dBreak, dCont, dNever, dgName, dgNil, dgCons, dgTup, dAsg, dPar, dAug, dCall, dMeth, tyG, dIsi, isB, dLenQ, dTupQ, dAny, dAll, dMaxL, dLc, dDc, dMatD, dNil0, dYes, pdCopyG, plKeysG, dAugS, sSet, sPut, dSorSetT, dLenSet, oNo, oYes, dSlL, dSlT, dRepL, dIxL, dTpl, fE, qE, dLRng, dRevT, dNeg, iE, iL, iR1, iR2, iK, iEn, dFor, dLock, oAdd, oSub, oMul, oDiv, oMod, oLt, oLe, oGt, oGe, oEq, oNe, oIn, oNotIn, oIx, oIs, oIsNot, oI, SD.isNon, inB, ixB, ixC, eqB_int, eqB_bl, eqB_str, at_nat, atI_0, atI_1, atI_2, atI_3, atI_4, ixN_0, ixN_1, ixN_2, ixN_3, ixN_4, KeyC, lenB, SD.rLen, rInt, rMax2, mAppend, mExtend, mPop, mIndex, mIndexT, mUpdate, intsD, intsOf, bools, List.set_cons_zero, List.set_cons_succ, List.length_cons, List.length_nil, Bool.not_true, Bool.not_false, if_true, if_false, Bool.false_eq_true, true_and, and_true, Option.bind_some, List.getElem?_cons_succ, List.getElem?_cons_zero, decide_eq_true_eq, Bool.not_eq_true, gput_same, gput_gput, Option.map_some, ↓reduceIte, ite_true, String.reduceBEq, String.reduceEq, decide_true, decide_false, beq_self_eq_true, hR]
    have hl : (intsD' ls).length = ls.length := by rw [intsD', List.length_map]
    have hp : (partG gm ls td).length = ls.length := by rw [partG, List.length_map]
    rw [hl, ← hp, List.take_length]
    exact .now hs q
end K43

set_option Elab.async false
set_option linter.all false
set_option maxRecDepth 100000
set_option maxHeartbeats 4000000
namespace K43
open PySem PySem.Spec PyProof.Rows L2 SD
theorem getD_idx {ls : List Nat} {x : Nat} (h : x ∈ ls) : ls.getD (ls.idxOf x) 0 = x := by
  have := List.idxOf_lt_length_of_mem h
  rw [List.getD_eq_getElem?_getD, List.getElem?_eq_getElem this]
  simp
theorem part_ok {gm : List Spot} {w f : Nat → Nat} {q : Nat} {ls : List Nat} {td : Nat → Option Nat} (ok : GmOk gm) (sol : Sol gm w f) (hq : q < 2) (mls : ∀ k, k ∈ ls ↔ k < gm.length ∧ w k = q) (lls : ls.length ≤ gm.length)
    (htd : ∀ k ∈ ls, td k = none ∨ ((gmOf gm).own k = q ∧ td k = some (f k))) : GmOk (partG gm ls td) ∧ (partG gm ls td).length = ls.length ∧ ∃ f', Cert (gmOf (partG gm ls td)) (fun k => k < (partG gm ls td).length) q (fun k => k < (partG gm ls td).length) f' := by
  have hlen : (partG gm ls td).length = ls.length := by rw [partG, List.length_map]
  have cq := sol.cert q hq
  have most := ok.most
  have at_ : ∀ i, i < ls.length → ∃ k s, ls[i]? = some k ∧ k ∈ ls ∧ ls.getD i 0 = k ∧ gm[k]? = some s ∧ (gmOf gm).own k = s.1 ∧ (gmOf gm).E k = s.2.2 ∧ (gmOf gm).lv k = s.2.1 ∧ (partG gm ls td)[i]? = some (s.1, s.2.1, match td k with | some j => [ls.idxOf j] | none => (s.2.2.filter fun g => decide (g ∈ ls)).map fun g => ls.idxOf g) := fun i hi => by
    have hm : ls[i] ∈ ls := List.getElem_mem hi
    obtain ⟨s, hs, h1, h2, h3⟩ := gm_at ((mls _).mp hm).1
    refine ⟨ls[i], s, List.getElem?_eq_getElem hi, hm, by simp [List.getD_eq_getElem?_getD, hi], hs, h1, h3, h2, ?_⟩
    rw [partG, List.getElem?_map, List.getElem?_eq_getElem hi, Option.map_some, h1, h2, h3]
    try (cases td ls[i] <;> rfl)
  have mine : ∀ k, k ∈ ls → (gmOf gm).own k = q → f k ∈ (gmOf gm).E k ∧ f k ∈ ls := fun k hk ho => by
    obtain ⟨a, b⟩ := cq.mine k ((mls k).mp hk) ho
    exact ⟨a, (mls _).mpr b⟩
  have his : ∀ k, k ∈ ls → (gmOf gm).own k ≠ q → ∀ g ∈ (gmOf gm).E k, g ∈ ls := fun k hk ho g hg => by
    obtain ⟨s, hs, h1, h2, h3⟩ := gm_at ((mls _).mp hk).1
    exact (mls g).mpr (cq.his k ((mls k).mp hk) ho g hg (ok.in_ _ _ hs g (by rw [← h3]; exact hg)))
  have st : ∀ i, i < ls.length → ∃ k s, ls[i]? = some k ∧ k ∈ ls ∧ ls.getD i 0 = k ∧ gm[k]? = some s ∧ (gmOf gm).own k = s.1 ∧ (gmOf gm).E k = s.2.2 ∧ (gmOf gm).lv k = s.2.1 ∧ ∃ es, (partG gm ls td)[i]? = some (s.1, s.2.1, es) ∧ es ≠ [] ∧ es.length < 64 ∧ (∀ e ∈ es, e < ls.length) ∧ (s.1 = q → ls.idxOf (f k) ∈ es) ∧ (s.1 ≠ q → ∀ e ∈ es, ls.getD e 0 ∈ s.2.2) := fun i hi => by
    obtain ⟨k, s, a1, a2, a3, a4, a5, a6, a7, a8⟩ := at_ i hi
    refine ⟨k, s, a1, a2, a3, a4, a5, a6, a7, ?_⟩
    have few := ok.few _ _ a4
    rcases htd k a2 with h | ⟨ho, h⟩
    · rw [h] at a8
      refine ⟨_, a8, ?_, ?_, ?_, fun ho => ?_, fun ho e he => ?_⟩
      · by_cases ho : (gmOf gm).own k = q
        · obtain ⟨m1, m2⟩ := mine k a2 ho
          intro z
          have : ls.idxOf (f k) ∈ (s.2.2.filter fun g => decide (g ∈ ls)).map fun g => ls.idxOf g := List.mem_map.mpr ⟨f k, List.mem_filter.mpr ⟨by rw [← a6]; exact m1, by simpa using m2⟩, rfl⟩
          have z' : (s.2.2.filter fun g => decide (g ∈ ls)).map (fun g => ls.idxOf g) = [] := z
          rw [z'] at this; cases this
        · intro z
          cases e : s.2.2 with
          | nil => exact ok.some_ _ _ a4 e
          | cons x r =>
            have hx := his k a2 ho x (by rw [a6, e]; exact List.mem_cons_self)
            have : ls.idxOf x ∈ (s.2.2.filter fun g => decide (g ∈ ls)).map fun g => ls.idxOf g := List.mem_map.mpr ⟨x, List.mem_filter.mpr ⟨by rw [e]; exact List.mem_cons_self, by simpa using hx⟩, rfl⟩
            have z' : (s.2.2.filter fun g => decide (g ∈ ls)).map (fun g => ls.idxOf g) = [] := z
            rw [z'] at this; cases this
      · show ((s.2.2.filter fun g => decide (g ∈ ls)).map fun g => ls.idxOf g).length < 64
        rw [List.length_map]; exact Nat.lt_of_le_of_lt (List.length_filter_le _ _) few
      · intro e he
        obtain ⟨g, hg, rfl⟩ := List.mem_map.mp he
        exact List.idxOf_lt_length_of_mem (by simpa using (List.mem_filter.mp hg).2)
      · obtain ⟨m1, m2⟩ := mine k a2 (by rw [a5]; exact ho)
        exact List.mem_map.mpr ⟨f k, List.mem_filter.mpr ⟨by rw [← a6]; exact m1, by simpa using m2⟩, rfl⟩
      · obtain ⟨g, hg, rfl⟩ := List.mem_map.mp he
        have hg' := List.mem_filter.mp hg
        rw [getD_idx (by simpa using hg'.2)]; exact hg'.1
    · rw [h] at a8
      obtain ⟨m1, m2⟩ := mine k a2 ho
      refine ⟨_, a8, by simp, by simp, fun e he => ?_, fun _ => by simp, fun z => absurd (a5.symm.trans ho) z⟩
      simp at he; rw [he]; exact List.idxOf_lt_length_of_mem m2
  have own' : ∀ i s' , (partG gm ls td)[i]? = some s' → i < ls.length := fun i s' h => by rw [← hlen]; exact (List.getElem?_eq_some_iff.mp h).1
  refine ⟨⟨by omega, fun i s' h => ?_, fun i s' h e he => ?_, fun i s' h => ?_, fun i s' h => ?_⟩, hlen, fun i => ls.idxOf (f (ls.getD i 0)), ?_⟩
  · obtain ⟨k, s, a1, a2, a3, a4, a5, a6, a7, es, b1, b2, b3, b4, b5, b6⟩ := st i (own' i s' h)
    rw [b1] at h; cases h; have := ok.two _ _ a4; exact this
  · obtain ⟨k, s, a1, a2, a3, a4, a5, a6, a7, es, b1, b2, b3, b4, b5, b6⟩ := st i (own' i s' h)
    rw [b1] at h; cases h; rw [hlen]; exact b4 e he
  · obtain ⟨k, s, a1, a2, a3, a4, a5, a6, a7, es, b1, b2, b3, b4, b5, b6⟩ := st i (own' i s' h)
    rw [b1] at h; cases h; exact b3
  · obtain ⟨k, s, a1, a2, a3, a4, a5, a6, a7, es, b1, b2, b3, b4, b5, b6⟩ := st i (own' i s' h)
    rw [b1] at h; cases h; exact b2
  · have g' : ∀ i, i < ls.length → ∃ (k : Nat) (s : Spot), ls.getD i 0 = k ∧ k ∈ ls ∧ (gmOf gm).own k = s.1 ∧ (gmOf gm).E k = s.2.2 ∧ (gmOf gm).lv k = s.2.1 ∧ (gmOf (partG gm ls td)).own i = s.1 ∧ (gmOf (partG gm ls td)).lv i = s.2.1 ∧ ∃ es, (gmOf (partG gm ls td)).E i = es ∧ (∀ e ∈ es, e < ls.length) ∧ (s.1 = q → ls.idxOf (f k) ∈ es) ∧ (s.1 ≠ q → ∀ e ∈ es, ls.getD e 0 ∈ s.2.2) := fun i hi => by
      obtain ⟨k, s, a1, a2, a3, a4, a5, a6, a7, es, b1, b2, b3, b4, b5, b6⟩ := st i hi
      obtain ⟨s', c1, c2, c3, c4⟩ := gm_at (gm := partG gm ls td) (k := i) (by rw [hlen]; exact hi)
      rw [b1] at c1; cases c1
      exact ⟨k, s, a3, a2, a5, a6, a7, c2, c3, es, c4, b4, b5, b6⟩
    rw [hlen]
    refine Cert.pull (e := fun i => ls.getD i 0) cq (fun i hi => ?_) (fun _ h => h) (fun i hi => ?_) (.inl fun i hi => ?_) (fun i hi ho => ?_) (fun i hi ho s' hs' hS => hS) fun i hi ho s' hs' _ => ?_
    · obtain ⟨k, s, a1, a2, _⟩ := g' i hi
      rw [a1]; exact (mls k).mp a2
    · obtain ⟨k, s, a1, a2, a3, a4, a5, a6, a7, _⟩ := g' i hi
      rw [a1, a6, a3]
    · obtain ⟨k, s, a1, a2, a3, a4, a5, a6, a7, _⟩ := g' i hi
      rw [a1, a7, a5]
    · obtain ⟨k, s, a1, a2, a3, a4, a5, a6, a7, es, b1, b2, b3, b4⟩ := g' i hi
      rw [a1] at ho ⊢
      obtain ⟨m1, m2⟩ := mine k a2 ho
      exact ⟨by rw [b1]; exact b3 (by rw [← a3]; exact ho), List.idxOf_lt_length_of_mem m2, getD_idx m2⟩
    · obtain ⟨k, s, a1, a2, a3, a4, a5, a6, a7, es, b1, b2, b3, b4⟩ := g' i hi
      rw [a1] at ho ⊢
      rw [b1] at hs'
      rw [a4]; exact b4 (by rw [← a3]; exact ho) s' hs'
end K43

set_option Elab.async false
set_option linter.all false
set_option maxRecDepth 100000
set_option maxHeartbeats 4000000
namespace K43
open PySem PySem.Spec PyProof.Rows L2 SD
theorem GmOk.own2 {gm : List Spot} (ok : GmOk gm) : ∀ k, k < gm.length → (gmOf gm).own k < 2 := fun k hk => by
  obtain ⟨sp, hsp, ho, _⟩ := gm_at hk
  rw [ho]; exact ok.two _ _ hsp
/-- what a certificate claims is won so -/
theorem Sol.keeps {gm : List Spot} {w f f' : Nat → Nat} {p : Nat} {U : Nat → Prop} (ok : GmOk gm) (s : Sol gm w f) (hp : p < 2) (c : Cert (gmOf gm) (fun k => k < gm.length) p U f') : ∀ k, U k → w k = p := by
  intro k hU
  have hk := c.sub k hU
  have h2 := s.two k
  apply Classical.byContradiction
  intro hne
  rcases (show p = 0 ∨ p = 1 by omega) with rfl | rfl
  · exact Cert.disjoint ok.own2 c (s.cert 1 (by decide)) k hU ⟨hk, by omega⟩
  · exact Cert.disjoint ok.own2 (s.cert 0 (by decide)) c k ⟨hk, by omega⟩ hU
def moreS (s : Spot) (g : Nat) : Spot := (s.1, s.2.1, s.2.2 ++ [g])
def moreG (gm : List Spot) (k : Nat) (s : Spot) : List Spot := gm.take k ++ [s] ++ gm.drop (k + 1)
theorem more_set {gm : List Spot} {k : Nat} {s : Spot} (h : k < gm.length) : moreG gm k s = gm.set k s := by
  rw [moreG, List.set_eq_take_append_cons_drop, if_pos h, List.append_assoc]; rfl
theorem more_len {gm : List Spot} {k : Nat} {s : Spot} (h : k < gm.length) : (moreG gm k s).length = gm.length := by rw [more_set h, List.length_set]
theorem gmOf_at {gm : List Spot} {k : Nat} {s : Spot} (h : gm[k]? = some s) : (gmOf gm).own k = s.1 ∧ (gmOf gm).lv k = s.2.1 ∧ (gmOf gm).E k = s.2.2 := by
  refine ⟨?_, ?_, ?_⟩ <;> simp [gmOf, List.getD_eq_getElem?_getD, h]
theorem more_at {gm : List Spot} {k g : Nat} {s : Spot} (h : gm[k]? = some s) (j : Nat) (hj : j < gm.length) : (gmOf (moreG gm k (moreS s g))).own j = (gmOf gm).own j ∧ (gmOf (moreG gm k (moreS s g))).lv j = (gmOf gm).lv j ∧
    (gmOf (moreG gm k (moreS s g))).E j = if j = k then s.2.2 ++ [g] else (gmOf gm).E j := by
  have hk : k < gm.length := (List.getElem?_eq_some_iff.mp h).1
  rw [more_set hk]
  by_cases e : j = k
  · subst e
    obtain ⟨a, b, c⟩ := gmOf_at h
    obtain ⟨a', b', c'⟩ := gmOf_at (gm := gm.set j (moreS s g)) (k := j) (s := moreS s g) (by simp [hk])
    rw [a, b, a', b', c', if_pos rfl]; exact ⟨rfl, rfl, rfl⟩
  · obtain ⟨t, ht, a, b, c⟩ := gm_at hj
    obtain ⟨a', b', c'⟩ := gmOf_at (gm := gm.set k (moreS s g)) (k := j) (s := t) (by rw [List.getElem?_set_ne (fun z => e z.symm)]; exact ht)
    rw [a, b, c, a', b', c', if_neg e]; exact ⟨rfl, rfl, rfl⟩
theorem more_mem {gm : List Spot} {k j g : Nat} {s t : Spot} (h : gm[k]? = some s) (ht : (moreG gm k (moreS s g))[j]? = some t) : t = moreS s g ∨ gm[j]? = some t := by
  have hk : k < gm.length := (List.getElem?_eq_some_iff.mp h).1
  rw [more_set hk] at ht
  by_cases e : k = j
  · subst e; rw [List.getElem?_set_self hk] at ht; exact .inl (Option.some.inj ht).symm
  · rw [List.getElem?_set_ne e] at ht; exact .inr ht
theorem more_ok {gm : List Spot} {k g : Nat} {s : Spot} (ok : GmOk gm) (h : gm[k]? = some s) (hg : g < gm.length) (few : s.2.2.length ≤ 3) : GmOk (moreG gm k (moreS s g)) := by
  have hk : k < gm.length := (List.getElem?_eq_some_iff.mp h).1
  have hl := more_len (s := moreS s g) hk
  refine ⟨by rw [hl]; exact ok.most, fun j t ht => ?_, fun j t ht => ?_, fun j t ht => ?_, fun j t ht => ?_⟩
  · rcases more_mem h ht with rfl | ht
    · have := ok.two _ _ h; exact this
    · exact ok.two _ _ ht
  · rw [hl]
    rcases more_mem h ht with rfl | ht
    · intro e he
      rcases List.mem_append.mp he with z | z
      · exact ok.in_ _ _ h e z
      · simp at z; rw [z]; exact hg
    · exact ok.in_ _ _ ht
  · rcases more_mem h ht with rfl | ht
    · show (s.2.2 ++ [g]).length < 64
      rw [List.length_append, List.length_singleton]; omega
    · exact ok.few _ _ ht
  · rcases more_mem h ht with rfl | ht
    · show s.2.2 ++ [g] ≠ []
      simp
    · exact ok.some_ _ _ ht
theorem more_lv {gm : List Spot} {k g L : Nat} {s : Spot} (h : gm[k]? = some s) (hL : ∀ t ∈ gm, t.2.1 < L) : ∀ t ∈ moreG gm k (moreS s g), t.2.1 < L := fun t ht => by
  obtain ⟨j, hj⟩ := List.mem_iff_getElem?.mp ht
  rcases more_mem h hj with rfl | ht
  · exact hL s (List.mem_of_getElem? h)
  · exact hL t (List.mem_of_getElem? ht)
/-- its owner loses nothing by one more step -/
theorem more_keeps {gm : List Spot} {k g : Nat} {s : Spot} {w f w' f' : Nat → Nat} (ok : GmOk gm) (h : gm[k]? = some s) (hg : g < gm.length) (few : s.2.2.length ≤ 3) (sol : Sol gm w f) (sol' : Sol (moreG gm k (moreS s g)) w' f') :
    (∀ j, j < gm.length → w j = s.1 → w' j = s.1) ∧ (w k = s.1 → ∀ j, j < gm.length → w' j = w j) := by
  have hk : k < gm.length := (List.getElem?_eq_some_iff.mp h).1
  have hl := more_len (s := moreS s g) hk
  have ok' := more_ok ok h hg few
  have at_ := fun j hj => more_at (g := g) h j hj
  obtain ⟨ek, _, Ek⟩ := gmOf_at h
  have h2 := ok.two _ _ h
  have key : ∀ q, q < 2 → (q ≠ s.1 → w k ≠ q) → ∀ j, j < gm.length → w j = q → w' j = q := fun q hq hkq j hj hw => by
    have c := sol.cert q hq
    refine sol'.keeps ok' hq (U := fun j => j < gm.length ∧ w j = q) (f' := f) ?_ j ⟨hj, hw⟩
    rw [hl]
    refine Cert.pull (e := fun i => i) c (fun i hi => hi) (fun i hi => hi.1) (fun i hi => (at_ i hi.1).1) (.inl fun i hi => (at_ i hi.1).2.1) (fun i hi ho => ?_) (fun i hi ho t ht hS => ?_) fun i hi ho t ht _ => ?_
    · obtain ⟨m1, m2⟩ := c.mine i hi ho
      refine ⟨?_, m2, rfl⟩
      rw [(at_ i hi.1).2.2]
      by_cases e : i = k
      · subst e; rw [if_pos rfl, ← Ek]; exact List.mem_append_left _ m1
      · rw [if_neg e]; exact m1
    · have hne : i ≠ k := fun e => by
        subst e
        by_cases z : q = s.1
        · exact ho (by rw [ek, z])
        · exact hkq z hi.2
      rw [(at_ i hi.1).2.2, if_neg hne] at ht
      exact c.his i hi ho t ht hS
    · have hne : i ≠ k := fun e => by
        subst e
        by_cases z : q = s.1
        · exact ho (by rw [ek, z])
        · exact hkq z hi.2
      rw [(at_ i hi.1).2.2, if_neg hne] at ht
      exact ht
  refine ⟨fun j hj hw => key s.1 h2 (fun z => absurd rfl z) j hj hw, fun hw j hj => ?_⟩
  exact key (w j) (sol.two j) (fun z e => z (by rw [← e, hw])) j hj rfl
/-- a game made spot by spot, with the same edges and levels that tell the same -/
theorem same_sol {gm gm' : List Spot} {w f w' f' : Nat → Nat} (ok' : GmOk gm') (hl : gm'.length = gm.length) (sol : Sol gm w f) (sol' : Sol gm' w' f') (own : ∀ j, j < gm.length → (gmOf gm').own j = (gmOf gm).own j)
    (lv : (∀ j, j < gm.length → (gmOf gm').lv j = (gmOf gm).lv j) ∨ ∀ j, j < gm.length → (gmOf gm').lv j = (gmOf gm).lv j + 2) (E : ∀ j, j < gm.length → ∀ t, t ∈ (gmOf gm').E j ↔ t ∈ (gmOf gm).E j) : ∀ j, j < gm.length → w' j = w j := fun j hj => by
  have c := sol.cert (w j) (sol.two j)
  refine sol'.keeps ok' (sol.two j) (U := fun i => i < gm.length ∧ w i = w j) (f' := f) ?_ j ⟨hj, rfl⟩
  rw [hl]
  exact Cert.pull (e := fun i => i) c (fun i hi => hi) (fun i hi => hi.1) (fun i hi => own i hi.1) (lv.imp (fun l i hi => l i hi.1) fun l i hi => l i hi.1)
    (fun i hi ho => let ⟨m1, m2⟩ := c.mine i hi ho; ⟨(E i hi.1 _).mpr m1, m2, rfl⟩) (fun i hi ho t ht hS => c.his i hi ho t ((E i hi.1 t).mp ht) hS) fun i hi ho t ht _ => (E i hi.1 t).mp ht
def liftG (gm : List Spot) : List Spot := gm.map fun s => (s.1, s.2.1 + 2, s.2.2)
def twiceG (gm : List Spot) : List Spot := gm.map fun s => (s.1, s.2.1, s.2.2 ++ s.2.2.reverse)
theorem map_ok {gm : List Spot} {h : Spot → Spot} (ok : GmOk gm) (h1 : ∀ s, (h s).1 = s.1) (h2 : ∀ s, ∀ e, e ∈ (h s).2.2 ↔ e ∈ s.2.2) (h3 : ∀ s ∈ gm, (h s).2.2.length < 64) : GmOk (gm.map h) := by
  have at_ : ∀ {k : Nat} {s : Spot}, (gm.map h)[k]? = some s → ∃ t, gm[k]? = some t ∧ h t = s := fun {k s} e => by
    rw [List.getElem?_map] at e; exact Option.map_eq_some_iff.mp e
  refine ⟨by rw [List.length_map]; exact ok.most, fun k s e => ?_, fun k s e x hx => ?_, fun k s e => ?_, fun k s e => ?_⟩
  · obtain ⟨t, ht, rfl⟩ := at_ e; rw [h1]; exact ok.two _ _ ht
  · obtain ⟨t, ht, rfl⟩ := at_ e; rw [List.length_map]; exact ok.in_ _ _ ht x ((h2 t x).mp hx)
  · obtain ⟨t, ht, rfl⟩ := at_ e; exact h3 t (List.mem_of_getElem? ht)
  · obtain ⟨t, ht, rfl⟩ := at_ e
    intro z
    cases q : t.2.2 with
    | nil => exact ok.some_ _ _ ht q
    | cons x r =>
      have := (h2 t x).mpr (by rw [q]; exact List.mem_cons_self)
      rw [z] at this; cases this
theorem map_at {gm : List Spot} {h : Spot → Spot} {j : Nat} (hj : j < gm.length) : ∃ s, gm[j]? = some s ∧ (gmOf gm).own j = s.1 ∧ (gmOf gm).lv j = s.2.1 ∧ (gmOf gm).E j = s.2.2 ∧ (gmOf (gm.map h)).own j = (h s).1 ∧ (gmOf (gm.map h)).lv j = (h s).2.1 ∧ (gmOf (gm.map h)).E j = (h s).2.2 := by
  obtain ⟨s, hs, a, b, c⟩ := gm_at hj
  obtain ⟨a', b', c'⟩ := gmOf_at (gm := gm.map h) (k := j) (s := h s) (by rw [List.getElem?_map, hs]; rfl)
  exact ⟨s, hs, a, b, c, a', b', c'⟩
theorem lift_ok {gm : List Spot} (ok : GmOk gm) : GmOk (liftG gm) := map_ok ok (fun _ => rfl) (fun _ _ => Iff.rfl) fun s hs => by
  obtain ⟨j, hj⟩ := List.mem_iff_getElem?.mp hs
  have := ok.few _ _ hj
  exact this
theorem lift_sol {gm : List Spot} {w f w' f' : Nat → Nat} (ok : GmOk gm) (sol : Sol gm w f) (sol' : Sol (liftG gm) w' f') : ∀ j, j < gm.length → w' j = w j := by
  refine same_sol (lift_ok ok) (by rw [liftG, List.length_map]) sol sol' (fun j hj => ?_) (.inr fun j hj => ?_) fun j hj t => ?_
  all_goals obtain ⟨s, hs, a, b, c, a', b', c'⟩ := map_at (h := fun s => (s.1, s.2.1 + 2, s.2.2)) hj
  · show (gmOf (gm.map _)).own j = _; rw [a, a']
  · show (gmOf (gm.map _)).lv j = _; rw [b, b']
  · show t ∈ (gmOf (gm.map _)).E j ↔ _; rw [c, c']
theorem twice_ok {gm : List Spot} (ok : GmOk gm) (few : ∀ s ∈ gm, s.2.2.length ≤ 3) : GmOk (twiceG gm) := map_ok ok (fun _ => rfl) (fun s e => by simp) fun s hs => by
  have := few s hs
  show (s.2.2 ++ s.2.2.reverse).length < 64
  rw [List.length_append, List.length_reverse]; omega
theorem twice_sol {gm : List Spot} {w f w' f' : Nat → Nat} (ok : GmOk gm) (few : ∀ s ∈ gm, s.2.2.length ≤ 3) (sol : Sol gm w f) (sol' : Sol (twiceG gm) w' f') : ∀ j, j < gm.length → w' j = w j := by
  refine same_sol (twice_ok ok few) (by rw [twiceG, List.length_map]) sol sol' (fun j hj => ?_) (.inl fun j hj => ?_) fun j hj t => ?_
  all_goals obtain ⟨s, hs, a, b, c, a', b', c'⟩ := map_at (h := fun s => (s.1, s.2.1, s.2.2 ++ s.2.2.reverse)) hj
  · show (gmOf (gm.map _)).own j = _; rw [a, a']
  · show (gmOf (gm.map _)).lv j = _; rw [b, b']
  · show t ∈ (gmOf (gm.map _)).E j ↔ _; rw [c, c']; simp
/-! ## in another order -/
def mixG (gm : List Spot) (od : List Nat) : List Spot := od.map fun j => ((gmOf gm).own j, (gmOf gm).lv j, ((gmOf gm).E j).map fun g => od.idxOf g)
theorem mix_at {gm : List Spot} {od : List Nat} (m : ∀ x, x ∈ od ↔ x < gm.length) {i : Nat} (hi : i < od.length) : ∃ j s, od[i]? = some j ∧ od.getD i 0 = j ∧ j < gm.length ∧ gm[j]? = some s ∧ (mixG gm od)[i]? = some (s.1, s.2.1, s.2.2.map fun g => od.idxOf g) ∧ (gmOf gm).own j = s.1 ∧ (gmOf gm).lv j = s.2.1 ∧ (gmOf gm).E j = s.2.2 := by
  have hm : od[i] ∈ od := List.getElem_mem hi
  obtain ⟨s, hs, a, b, c⟩ := gm_at ((m _).mp hm)
  refine ⟨od[i], s, List.getElem?_eq_getElem hi, by simp [List.getD_eq_getElem?_getD, hi], (m _).mp hm, hs, ?_, a, b, c⟩
  rw [mixG, List.getElem?_map, List.getElem?_eq_getElem hi, Option.map_some, a, b, c]
theorem mix_len {gm : List Spot} {od : List Nat} : (mixG gm od).length = od.length := by rw [mixG, List.length_map]
theorem mix_ok {gm : List Spot} {od : List Nat} (ok : GmOk gm) (hl : od.length = gm.length) (m : ∀ x, x ∈ od ↔ x < gm.length) : GmOk (mixG gm od) := by
  have at_ : ∀ {i : Nat} {t : Spot}, (mixG gm od)[i]? = some t → ∃ (j : Nat) (s : Spot), gm[j]? = some s ∧ t = (s.1, s.2.1, s.2.2.map fun g => od.idxOf g) := fun {i t} e => by
    have hi : i < od.length := by rw [← mix_len (gm := gm)]; exact (List.getElem?_eq_some_iff.mp e).1
    obtain ⟨j, s, _, _, _, hs, h, _⟩ := mix_at m hi
    rw [h] at e; exact ⟨j, s, hs, (Option.some.inj e).symm⟩
  refine ⟨by rw [mix_len, hl]; exact ok.most, fun i t e => ?_, fun i t e x hx => ?_, fun i t e => ?_, fun i t e => ?_⟩
  · obtain ⟨j, s, hs, rfl⟩ := at_ e; have := ok.two _ _ hs; exact this
  · obtain ⟨j, s, hs, rfl⟩ := at_ e
    obtain ⟨g, hg, rfl⟩ := List.mem_map.mp hx
    rw [mix_len]
    exact List.idxOf_lt_length_of_mem ((m g).mpr (ok.in_ _ _ hs g hg))
  · obtain ⟨j, s, hs, rfl⟩ := at_ e
    show (s.2.2.map _).length < 64
    rw [List.length_map]; exact ok.few _ _ hs
  · obtain ⟨j, s, hs, rfl⟩ := at_ e
    exact fun z => ok.some_ _ _ hs (List.map_eq_nil_iff.mp z)
theorem idx_at {od : List Nat} (nd : od.Nodup) {i j : Nat} (h : od[i]? = some j) : od.idxOf j = i := by
  obtain ⟨hi, rfl⟩ := List.getElem?_eq_some_iff.mp h
  exact nd.idxOf_getElem i hi
theorem mix_sol {gm : List Spot} {od : List Nat} {w f w' f' : Nat → Nat} (ok : GmOk gm) (nd : od.Nodup) (hl : od.length = gm.length) (m : ∀ x, x ∈ od ↔ x < gm.length) (sol : Sol gm w f) (sol' : Sol (mixG gm od) w' f') : ∀ i, i < od.length → w' i = w (od.getD i 0) := fun i0 hi0 => by
  have c := sol.cert (w (od.getD i0 0)) (sol.two _)
  refine sol'.keeps (mix_ok ok hl m) (sol.two _) (U := fun i => i < od.length ∧ w (od.getD i 0) = w (od.getD i0 0)) (f' := fun i => od.idxOf (f (od.getD i 0))) ?_ i0 ⟨hi0, rfl⟩
  rw [mix_len]
  have g' : ∀ i, i < od.length → ∃ (j : Nat) (s : Spot), od.getD i 0 = j ∧ j < gm.length ∧ gm[j]? = some s ∧ (gmOf gm).own j = s.1 ∧ (gmOf gm).lv j = s.2.1 ∧ (gmOf gm).E j = s.2.2 ∧ (gmOf (mixG gm od)).own i = s.1 ∧ (gmOf (mixG gm od)).lv i = s.2.1 ∧ (gmOf (mixG gm od)).E i = s.2.2.map fun g => od.idxOf g := fun i hi => by
    obtain ⟨j, s, _, a, b, hs, h, c1, c2, c3⟩ := mix_at m hi
    obtain ⟨d1, d2, d3⟩ := gmOf_at h
    exact ⟨j, s, a, b, hs, c1, c2, c3, d1, d2, d3⟩
  refine Cert.pull (e := fun i => od.getD i 0) c (fun i hi => ?_) (fun i hi => hi.1) (fun i hi => ?_) (.inl fun i hi => ?_) (fun i hi ho => ?_) (fun i hi ho t ht hS => ?_) fun i hi ho t ht _ => ?_
  · obtain ⟨j, s, a, b, _⟩ := g' i hi.1
    exact ⟨by rw [a]; exact b, hi.2⟩
  · obtain ⟨j, s, a, b, hs, c1, c2, c3, d1, d2, d3⟩ := g' i hi.1
    rw [d1, a, c1]
  · obtain ⟨j, s, a, b, hs, c1, c2, c3, d1, d2, d3⟩ := g' i hi.1
    rw [d2, a, c2]
  · obtain ⟨j, s, a, b, hs, c1, c2, c3, d1, d2, d3⟩ := g' i hi.1
    have hw := hi.2
    rw [a] at ho hw ⊢
    obtain ⟨m1, m2⟩ := c.mine j ⟨b, hw⟩ ho
    have hm := (m _).mpr m2.1
    rw [getD_idx hm]
    refine ⟨by rw [d3]; exact List.mem_map.mpr ⟨f j, by rw [← c3]; exact m1, rfl⟩, ⟨List.idxOf_lt_length_of_mem hm, m2.2⟩, rfl⟩
  · obtain ⟨j, s, a, b, hs, c1, c2, c3, d1, d2, d3⟩ := g' i hi.1
    have hw := hi.2
    rw [a] at ho hw
    rw [d3] at ht
    obtain ⟨g, hg, rfl⟩ := List.mem_map.mp ht
    have hgl := ok.in_ _ _ hs g hg
    refine ⟨hS, ?_⟩
    rw [getD_idx ((m g).mpr hgl)]
    exact (c.his j ⟨b, hw⟩ ho g (by rw [c3]; exact hg) hgl).2
  · obtain ⟨j, s, a, b, hs, c1, c2, c3, d1, d2, d3⟩ := g' i hi.1
    rw [d3] at ht
    obtain ⟨g, hg, rfl⟩ := List.mem_map.mp ht
    rw [a, getD_idx ((m g).mpr (ok.in_ _ _ hs g hg)), c3]; exact hg
end K43

set_option Elab.async false
set_option linter.all false
set_option maxRecDepth 100000
set_option maxHeartbeats 4000000
namespace K43
open PySem PySem.Spec PyProof.Rows L2 SD
structure Ctx (gm : List Spot) (w f : Nat → Nat) : Prop where
  two : 2 ≤ gm.length
  most : gm.length ≤ 11
  ok : GmOk gm
  lv : ∀ s ∈ gm, s.2.1 < 5
  few : ∀ s ∈ gm, s.2.2.length ≤ 3
  sol : Sol gm w f
theorem levs_le {xs : List D} {n : Nat} (h : ∀ x ∈ xs, lev x ≤ n) : levs xs ≤ n := by
  induction xs with
  | nil => exact Nat.zero_le _
  | cons x r ih => show max (lev x) (levs r) ≤ n; exact Nat.max_le.mpr ⟨h x List.mem_cons_self, ih fun y hy => h y (List.mem_cons_of_mem _ hy)⟩
theorem lev_ints (es : List Nat) : lev (.tup (intsD' es)) = 1 := by
  show levs (intsD' es) + 1 = 1
  rw [levs_ints]
theorem eqB_ints {G : Gp} {es fs : List Nat} : eqB G (.tup (intsD' es)) (.tup (intsD' fs)) = some (decide (es = fs)) := by
  have e : eqB G (.tup (intsD' es)) (.tup (intsD' fs)) = if lev (.tup (intsD' es)) ≤ 60 ∧ lev (.tup (intsD' fs)) ≤ 60 then some (decide (D.tup (intsD' es) = D.tup (intsD' fs))) else none := rfl
  rw [e, lev_ints, lev_ints, if_pos ⟨by decide, by decide⟩]
  have inj : intsD' es = intsD' fs ↔ es = fs := by
    constructor
    · intro h
      have : ∀ (a b : List Nat), intsD' a = intsD' b → a = b := by
        intro a
        induction a with
        | nil => intro b h; cases b with | nil => rfl | cons y s => cases h
        | cons x r ih => intro b h; cases b with | nil => cases h | cons y s => (have h' : D.int (x : Nat) :: intsD' r = D.int (y : Nat) :: intsD' s := h); (have h1 := (List.cons.inj h').1); (have h2 := (List.cons.inj h').2); rw [intN_inj h1, ih s h2]
      exact this _ _ h
    · rintro rfl; rfl
  by_cases h : es = fs
  · simp [h]
  · have h2 : ¬ intsD' es = intsD' fs := fun z => h (inj.mp z)
    simp [h, h2]
theorem ints_rev (es : List Nat) : intsD' es ++ (intsD' es).reverse = intsD' (es ++ es.reverse) := by simp [intsD', List.map_reverse]
theorem ints_len (es : List Nat) : (intsD' es).length = es.length := by rw [intsD', List.length_map]
theorem idx_cast (es : List Nat) (g : Nat) : (es.map fun (e : Nat) => (e : Int)).idxOf (g : Int) = es.idxOf g := by
  induction es with
  | nil => rfl
  | cons x r ih =>
    rw [List.map_cons, List.idxOf_cons, List.idxOf_cons, ih]
    by_cases h : x = g
    · rw [h, beq_self_eq_true, beq_self_eq_true]
    · have h' : ¬ (x : Int) = (g : Int) := fun z => h (by omega)
      rw [beq_false_of_ne h, beq_false_of_ne h']
theorem map_getD (w : Nat → Nat) (od : List Nat) : (List.range od.length).map (fun i => w (od.getD i 0)) = od.map w := by
  refine List.ext_getElem (by simp) fun i h1 h2 => ?_
  have hi : i < od.length := by simpa using h2
  simp [List.getD_eq_getElem?_getD, hi]
/-- a map over the spots -/
theorem lc_spots {g : TG2} {tt : TT2} {te : TE2} {C : Gp → Prop} {δw : St2} {G : Gp} {Q : List D → Gp → Prop} (h : Spot → Spot) (hC : C G) (gm : List Spot)
    (hx : ∀ s ∈ gm, ∀ (R1 : D → Gp → Prop) (R0 : Gp → Prop), R1 (spotD (h s)) G → g (spotD s) δw G fun δ2 G2 => tt δ2 G2 fun c G3 => if c = true then te δ2 G3 R1 else R0 G3) : ∀ acc : List D,
    Q (acc ++ (gm.map h).map spotD) G → lcW g tt te C δw Q (gm.map spotD) acc G := by
  induction gm with
  | nil => intro acc q; exact ⟨hC, by simpa using q⟩
  | cons s r ih =>
    intro acc q
    refine ⟨hC, hx s List.mem_cons_self _ _ ?_⟩
    exact ih (fun s hs => hx s (List.mem_cons_of_mem _ hs)) _ (by rw [List.append_assoc]; exact q)
/-- .. over whole numbers -/
theorem lc_nats {g : TG2} {tt : TT2} {te : TE2} {C : Gp → Prop} {δw : St2} {G : Gp} {Q : List D → Gp → Prop} (h : Nat → D) (hC : C G) (es : List Nat)
    (hx : ∀ j ∈ es, ∀ (R1 : D → Gp → Prop) (R0 : Gp → Prop), R1 (h j) G → g (.int (j : Nat)) δw G fun δ2 G2 => tt δ2 G2 fun c G3 => if c = true then te δ2 G3 R1 else R0 G3) : ∀ acc : List D,
    Q (acc ++ es.map h) G → lcW g tt te C δw Q (intsD' es) acc G := by
  induction es with
  | nil => intro acc q; exact ⟨hC, by simpa using q⟩
  | cons j r ih =>
    intro acc q
    refine ⟨hC, hx j List.mem_cons_self _ _ ?_⟩
    exact ih (fun j hj => hx j (List.mem_cons_of_mem _ hj)) _ (by rw [List.append_assoc]; exact q)
/-- .. nothing is found -/
theorem lc_nothing {g : TG2} {tt : TT2} {te : TE2} {C : Gp → Prop} {δw : St2} {G : Gp} {Q : List D → Gp → Prop} (hC : C G) (es : List Nat)
    (hx : ∀ j ∈ es, ∀ (R1 : D → Gp → Prop) (R0 : Gp → Prop), R0 G → g (.int (j : Nat)) δw G fun δ2 G2 => tt δ2 G2 fun c G3 => if c = true then te δ2 G3 R1 else R0 G3) (q : Q [] G) : lcW g tt te C δw Q (intsD' es) [] G := by
  induction es with
  | nil => exact ⟨hC, q⟩
  | cons j r ih => exact ⟨hC, hx j List.mem_cons_self _ _ (ih fun j hj => hx j (List.mem_cons_of_mem _ hj))⟩
section
variable {k : Nat} {ns : List Int} {p sc : Addr} {gm : List Spot} {w f : Nat → Nat} {G : Gp} {E : En2}

theorem t_19 {x6 x7 x8 x9 x10 x11 x12 x13 x14 x15 x16 x20 x21 x22 x23 x24 x25 : Option D} (hrt : ∀ G, E.rt (.bl true) G) (c : Ctx gm w f) {q : Addr} {od : List Nat} (hq : G q = some (.tpl (intsD' od))) (nd : od.Nodup) (hl : od.length = gm.length) (m : ∀ x, x ∈ od ↔ x < gm.length) : b_law_19 (WF T (k + 19)) E [some (.scr ns), some (.ref p), some (.tup (gm.map spotD)), some (.int (gm.map spotD).length), some (winD gm w), some (rowsD gm w f), x6, x7, x8, x9, x10, x11, x12, x13, x14, x15, x16, some (gameD (liftG gm)), some (.ref q), some (gameD (mixG gm od)), x20, x21, x22, x23, x24, x25] G := by
  unfold b_law_19
  have hsl : sizeLine = 16777216 := sizeLine_eq
  have most := c.most
  have two := c.two
  have hln : (gm.map spotD).length = gm.length := List.length_map _
  have hn1 : ((gm.map spotD).length : Int).toNat = gm.length := by rw [List.length_map]; omega
  refine seq_gen (fun δ G' => G' = G ∧ δ = [some (.scr ns), some (.ref p), some (.tup (gm.map spotD)), some (.int (gm.map spotD).length), some (winD gm w), some (rowsD gm w f), x6, x7, x8, x9, x10, x11, x12, x13, x14, x15, x16, some (gameD (liftG gm)), some (.ref q), some (gameD (mixG gm od)), some (gameD (twiceG gm)), x21, x22, x23, x24, x25]) (fun K hK => ?_) ?_
  · simp only [dVar, dC, dTup, dCons, dNil, dMat, dOp, dTest, dAnd, dOr, dNot, dAndV, dOrV, dNotV, dIf, dChain, asB, slot, wipe2, dSeq, dNext, dSet, dRet, dRetN, dDrop, dIfS, dBreak, dCont, dNever, dgName, dgNil, dgCons, dgTup, dAsg, dPar, dAug, dCall, dMeth, tyG, dIsi, isB, dLenQ, dTupQ, dAny, dAll, dMaxL, dLc, dDc, dMatD, dNil0, dYes, pdCopyG, plKeysG, dAugS, sSet, sPut, dSorSetT, dLenSet, oNo, oYes, dSlL, dSlT, dRepL, dIxL, dTpl, fE, qE, dLRng, dRevT, dNeg, iE, iL, iR1, iR2, iK, iEn, dFor, dLock, oAdd, oSub, oMul, oDiv, oMod, oLt, oLe, oGt, oGe, oEq, oNe, oIn, oNotIn, oIx, oIs, oIsNot, oI, SD.isNon, inB, ixB, ixC, eqB_int, eqB_bl, eqB_str, at_nat, atI_0, atI_1, atI_2, atI_3, atI_4, ixN_0, ixN_1, ixN_2, ixN_3, ixN_4, KeyC, lenB, SD.rLen, rInt, rMax2, mAppend, mExtend, mPop, mIndex, mIndexT, mUpdate, intsD, intsOf, bools, List.set_cons_zero, List.set_cons_succ, List.length_cons, List.length_nil, Bool.not_true, Bool.not_false, if_true, if_false, Bool.false_eq_true, true_and, and_true, Option.bind_some, List.getElem?_cons_succ, List.getElem?_cons_zero, decide_eq_true_eq, Bool.not_eq_true, gput_same, gput_gput, Option.map_some, ↓reduceIte, ite_true, String.reduceBEq, String.reduceEq, decide_true, decide_false, beq_self_eq_true]
    refine ⟨by omega, lc_spots (fun s => (s.1, s.2.1, s.2.2 ++ s.2.2.reverse)) trivial gm (fun s hs R1 R0 r => ?_) [] ?_⟩
    · have few := c.few s hs
      simp only [dVar, dC, dTup, dCons, dNil, dMat, dOp, dTest, dAnd, dOr, dNot, dAndV, dOrV, dNotV, dIf, dChain, asB, slot, wipe2, dSeq, dNext, dSet, dRet, dRetN, dDrop, dIfS, dBreak, dCont, dNever, dgName, dgNil, dgCons, dgTup, dAsg, dPar, dAug, dCall, dMeth, tyG, dIsi, isB, dLenQ, dTupQ, dAny, dAll, dMaxL, dLc, dDc, dMatD, dNil0, dYes, pdCopyG, plKeysG, dAugS, sSet, sPut, dSorSetT, dLenSet, oNo, oYes, dSlL, dSlT, dRepL, dIxL, dTpl, fE, qE, dLRng, dRevT, dNeg, iE, iL, iR1, iR2, iK, iEn, dFor, dLock, oAdd, oSub, oMul, oDiv, oMod, oLt, oLe, oGt, oGe, oEq, oNe, oIn, oNotIn, oIx, oIs, oIsNot, oI, SD.isNon, inB, ixB, ixC, eqB_int, eqB_bl, eqB_str, at_nat, atI_0, atI_1, atI_2, atI_3, atI_4, ixN_0, ixN_1, ixN_2, ixN_3, ixN_4, KeyC, lenB, SD.rLen, rInt, rMax2, mAppend, mExtend, mPop, mIndex, mIndexT, mUpdate, intsD, intsOf, bools, List.set_cons_zero, List.set_cons_succ, List.length_cons, List.length_nil, Bool.not_true, Bool.not_false, if_true, if_false, Bool.false_eq_true, true_and, and_true, Option.bind_some, List.getElem?_cons_succ, List.getElem?_cons_zero, decide_eq_true_eq, Bool.not_eq_true, gput_same, gput_gput, Option.map_some, ↓reduceIte, ite_true, String.reduceBEq, String.reduceEq, decide_true, decide_false, beq_self_eq_true, spotD]
      rw [ints_rev]
      exact ⟨by rw [List.length_reverse, ints_len]; omega, r⟩
    · exact hK _ _ ⟨rfl, rfl⟩
  rintro δ G' ⟨rfl, rfl⟩
  simp only [dVar, dC, dTup, dCons, dNil, dMat, dOp, dTest, dAnd, dOr, dNot, dAndV, dOrV, dNotV, dIf, dChain, asB, slot, wipe2, dSeq, dNext, dSet, dRet, dRetN, dDrop, dIfS, dBreak, dCont, dNever, dgName, dgNil, dgCons, dgTup, dAsg, dPar, dAug, dCall, dMeth, tyG, dIsi, isB, dLenQ, dTupQ, dAny, dAll, dMaxL, dLc, dDc, dMatD, dNil0, dYes, pdCopyG, plKeysG, dAugS, sSet, sPut, dSorSetT, dLenSet, oNo, oYes, dSlL, dSlT, dRepL, dIxL, dTpl, fE, qE, dLRng, dRevT, dNeg, iE, iL, iR1, iR2, iK, iEn, dFor, dLock, oAdd, oSub, oMul, oDiv, oMod, oLt, oLe, oGt, oGe, oEq, oNe, oIn, oNotIn, oIx, oIs, oIsNot, oI, SD.isNon, inB, ixB, ixC, eqB_int, eqB_bl, eqB_str, at_nat, atI_0, atI_1, atI_2, atI_3, atI_4, ixN_0, ixN_1, ixN_2, ixN_3, ixN_4, KeyC, lenB, SD.rLen, rInt, rMax2, mAppend, mExtend, mPop, mIndex, mIndexT, mUpdate, intsD, intsOf, bools, List.set_cons_zero, List.set_cons_succ, List.length_cons, List.length_nil, Bool.not_true, Bool.not_false, if_true, if_false, Bool.false_eq_true, true_and, and_true, Option.bind_some, List.getElem?_cons_succ, List.getElem?_cons_zero, decide_eq_true_eq, Bool.not_eq_true, gput_same, gput_gput, Option.map_some, ↓reduceIte, ite_true, String.reduceBEq, String.reduceEq, decide_true, decide_false, beq_self_eq_true]
  refine w_solved (L := 7) (lift_ok c.ok) (fun s hs => ?_) (by omega) fun w1 f1 s1 => ?_
  · obtain ⟨t, ht, rfl⟩ := List.mem_map.mp hs
    have := c.lv t ht
    show t.2.1 + 2 < 7
    omega
  simp only [dVar, dC, dTup, dCons, dNil, dMat, dOp, dTest, dAnd, dOr, dNot, dAndV, dOrV, dNotV, dIf, dChain, asB, slot, wipe2, dSeq, dNext, dSet, dRet, dRetN, dDrop, dIfS, dBreak, dCont, dNever, dgName, dgNil, dgCons, dgTup, dAsg, dPar, dAug, dCall, dMeth, tyG, dIsi, isB, dLenQ, dTupQ, dAny, dAll, dMaxL, dLc, dDc, dMatD, dNil0, dYes, pdCopyG, plKeysG, dAugS, sSet, sPut, dSorSetT, dLenSet, oNo, oYes, dSlL, dSlT, dRepL, dIxL, dTpl, fE, qE, dLRng, dRevT, dNeg, iE, iL, iR1, iR2, iK, iEn, dFor, dLock, oAdd, oSub, oMul, oDiv, oMod, oLt, oLe, oGt, oGe, oEq, oNe, oIn, oNotIn, oIx, oIs, oIsNot, oI, SD.isNon, inB, ixB, ixC, eqB_int, eqB_bl, eqB_str, at_nat, atI_0, atI_1, atI_2, atI_3, atI_4, ixN_0, ixN_1, ixN_2, ixN_3, ixN_4, KeyC, lenB, SD.rLen, rInt, rMax2, mAppend, mExtend, mPop, mIndex, mIndexT, mUpdate, intsD, intsOf, bools, List.set_cons_zero, List.set_cons_succ, List.length_cons, List.length_nil, Bool.not_true, Bool.not_false, if_true, if_false, Bool.false_eq_true, true_and, and_true, Option.bind_some, List.getElem?_cons_succ, List.getElem?_cons_zero, decide_eq_true_eq, Bool.not_eq_true, gput_same, gput_gput, Option.map_some, ↓reduceIte, ite_true, String.reduceBEq, String.reduceEq, decide_true, decide_false, beq_self_eq_true]
  refine w_solved (L := 5) (twice_ok c.ok c.few) (fun s hs => ?_) (by omega) fun w2 f2 s2 => ?_
  · obtain ⟨t, ht, rfl⟩ := List.mem_map.mp hs
    exact c.lv t ht
  simp only [dVar, dC, dTup, dCons, dNil, dMat, dOp, dTest, dAnd, dOr, dNot, dAndV, dOrV, dNotV, dIf, dChain, asB, slot, wipe2, dSeq, dNext, dSet, dRet, dRetN, dDrop, dIfS, dBreak, dCont, dNever, dgName, dgNil, dgCons, dgTup, dAsg, dPar, dAug, dCall, dMeth, tyG, dIsi, isB, dLenQ, dTupQ, dAny, dAll, dMaxL, dLc, dDc, dMatD, dNil0, dYes, pdCopyG, plKeysG, dAugS, sSet, sPut, dSorSetT, dLenSet, oNo, oYes, dSlL, dSlT, dRepL, dIxL, dTpl, fE, qE, dLRng, dRevT, dNeg, iE, iL, iR1, iR2, iK, iEn, dFor, dLock, oAdd, oSub, oMul, oDiv, oMod, oLt, oLe, oGt, oGe, oEq, oNe, oIn, oNotIn, oIx, oIs, oIsNot, oI, SD.isNon, inB, ixB, ixC, eqB_int, eqB_bl, eqB_str, at_nat, atI_0, atI_1, atI_2, atI_3, atI_4, ixN_0, ixN_1, ixN_2, ixN_3, ixN_4, KeyC, lenB, SD.rLen, rInt, rMax2, mAppend, mExtend, mPop, mIndex, mIndexT, mUpdate, intsD, intsOf, bools, List.set_cons_zero, List.set_cons_succ, List.length_cons, List.length_nil, Bool.not_true, Bool.not_false, if_true, if_false, Bool.false_eq_true, true_and, and_true, Option.bind_some, List.getElem?_cons_succ, List.getElem?_cons_zero, decide_eq_true_eq, Bool.not_eq_true, gput_same, gput_gput, Option.map_some, ↓reduceIte, ite_true, String.reduceBEq, String.reduceEq, decide_true, decide_false, beq_self_eq_true]
  refine w_solved (L := 5) (mix_ok c.ok hl m) (fun s hs => ?_) (by omega) fun w3 f3 s3 => ?_
  · obtain ⟨j, hj, rfl⟩ := List.mem_map.mp hs
    obtain ⟨t, ht, _, hlv, _⟩ := gm_at ((m j).mp hj)
    show (gmOf gm).lv j < 5
    rw [hlv]; exact c.lv t (List.mem_of_getElem? ht)
  have e1 : (List.range (liftG gm).length).map w1 = (List.range gm.length).map w := by
    rw [show (liftG gm).length = gm.length from List.length_map _]
    exact List.map_congr_left fun j hj => lift_sol c.ok c.sol s1 j (List.mem_range.mp hj)
  have e2 : (List.range (twiceG gm).length).map w2 = (List.range gm.length).map w := by
    rw [show (twiceG gm).length = gm.length from List.length_map _]
    exact List.map_congr_left fun j hj => twice_sol c.ok c.few c.sol s2 j (List.mem_range.mp hj)
  have e3 : (List.range (mixG gm od).length).map w3 = od.map w := by
    rw [mix_len, ← map_getD w od]
    exact List.map_congr_left fun j hj => mix_sol c.ok nd hl m c.sol s3 j (List.mem_range.mp hj)
  unfold winD
  rw [e1, e2, e3]
  simp only [dVar, dC, dTup, dCons, dNil, dMat, dOp, dTest, dAnd, dOr, dNot, dAndV, dOrV, dNotV, dIf, dChain, asB, slot, wipe2, dSeq, dNext, dSet, dRet, dRetN, dDrop, dIfS, dBreak, dCont, dNever, dgName, dgNil, dgCons, dgTup, dAsg, dPar, dAug, dCall, dMeth, tyG, dIsi, isB, dLenQ, dTupQ, dAny, dAll, dMaxL, dLc, dDc, dMatD, dNil0, dYes, pdCopyG, plKeysG, dAugS, sSet, sPut, dSorSetT, dLenSet, oNo, oYes, dSlL, dSlT, dRepL, dIxL, dTpl, fE, qE, dLRng, dRevT, dNeg, iE, iL, iR1, iR2, iK, iEn, dFor, dLock, oAdd, oSub, oMul, oDiv, oMod, oLt, oLe, oGt, oGe, oEq, oNe, oIn, oNotIn, oIx, oIs, oIsNot, oI, SD.isNon, inB, ixB, ixC, eqB_int, eqB_bl, eqB_str, at_nat, atI_0, atI_1, atI_2, atI_3, atI_4, ixN_0, ixN_1, ixN_2, ixN_3, ixN_4, KeyC, lenB, SD.rLen, rInt, rMax2, mAppend, mExtend, mPop, mIndex, mIndexT, mUpdate, intsD, intsOf, bools, List.set_cons_zero, List.set_cons_succ, List.length_cons, List.length_nil, Bool.not_true, Bool.not_false, if_true, if_false, Bool.false_eq_true, true_and, and_true, Option.bind_some, List.getElem?_cons_succ, List.getElem?_cons_zero, decide_eq_true_eq, Bool.not_eq_true, gput_same, gput_gput, Option.map_some, ↓reduceIte, ite_true, String.reduceBEq, String.reduceEq, decide_true, decide_false, beq_self_eq_true]
  intro a1 ha1
  have hqa : q ≠ a1 := fun z => by rw [z, ha1] at hq; cases hq
  rw [gput_ne hqa, hq]
  simp only [dVar, dC, dTup, dCons, dNil, dMat, dOp, dTest, dAnd, dOr, dNot, dAndV, dOrV, dNotV, dIf, dChain, asB, slot, wipe2, dSeq, dNext, dSet, dRet, dRetN, dDrop, dIfS, dBreak, dCont, dNever, dgName, dgNil, dgCons, dgTup, dAsg, dPar, dAug, dCall, dMeth, tyG, dIsi, isB, dLenQ, dTupQ, dAny, dAll, dMaxL, dLc, dDc, dMatD, dNil0, dYes, pdCopyG, plKeysG, dAugS, sSet, sPut, dSorSetT, dLenSet, oNo, oYes, dSlL, dSlT, dRepL, dIxL, dTpl, fE, qE, dLRng, dRevT, dNeg, iE, iL, iR1, iR2, iK, iEn, dFor, dLock, oAdd, oSub, oMul, oDiv, oMod, oLt, oLe, oGt, oGe, oEq, oNe, oIn, oNotIn, oIx, oIs, oIsNot, oI, SD.isNon, inB, ixB, ixC, eqB_int, eqB_bl, eqB_str, at_nat, atI_0, atI_1, atI_2, atI_3, atI_4, ixN_0, ixN_1, ixN_2, ixN_3, ixN_4, KeyC, lenB, SD.rLen, rInt, rMax2, mAppend, mExtend, mPop, mIndex, mIndexT, mUpdate, intsD, intsOf, bools, List.set_cons_zero, List.set_cons_succ, List.length_cons, List.length_nil, Bool.not_true, Bool.not_false, if_true, if_false, Bool.false_eq_true, true_and, and_true, Option.bind_some, List.getElem?_cons_succ, List.getElem?_cons_zero, decide_eq_true_eq, Bool.not_eq_true, gput_same, gput_gput, Option.map_some, ↓reduceIte, ite_true, String.reduceBEq, String.reduceEq, decide_true, decide_false, beq_self_eq_true]
  refine ⟨by rw [ints_len]; omega, lc_nats (fun j => .int (w j : Nat)) trivial od (fun j hj R1 R0 r => ?_) [] ?_⟩
  · have hj' := (m j).mp hj
    have wat : (intsD' ((List.range gm.length).map w))[j]? = some (.int (w j)) := by simp [intsD', hj']
    simp only [dVar, dC, dTup, dCons, dNil, dMat, dOp, dTest, dAnd, dOr, dNot, dAndV, dOrV, dNotV, dIf, dChain, asB, slot, wipe2, dSeq, dNext, dSet, dRet, dRetN, dDrop, dIfS, dBreak, dCont, dNever, dgName, dgNil, dgCons, dgTup, dAsg, dPar, dAug, dCall, dMeth, tyG, dIsi, isB, dLenQ, dTupQ, dAny, dAll, dMaxL, dLc, dDc, dMatD, dNil0, dYes, pdCopyG, plKeysG, dAugS, sSet, sPut, dSorSetT, dLenSet, oNo, oYes, dSlL, dSlT, dRepL, dIxL, dTpl, fE, qE, dLRng, dRevT, dNeg, iE, iL, iR1, iR2, iK, iEn, dFor, dLock, oAdd, oSub, oMul, oDiv, oMod, oLt, oLe, oGt, oGe, oEq, oNe, oIn, oNotIn, oIx, oIs, oIsNot, oI, SD.isNon, inB, ixB, ixC, eqB_int, eqB_bl, eqB_str, at_nat, atI_0, atI_1, atI_2, atI_3, atI_4, ixN_0, ixN_1, ixN_2, ixN_3, ixN_4, KeyC, lenB, SD.rLen, rInt, rMax2, mAppend, mExtend, mPop, mIndex, mIndexT, mUpdate, intsD, intsOf, bools, List.set_cons_zero, List.set_cons_succ, List.length_cons, List.length_nil, Bool.not_true, Bool.not_false, if_true, if_false, Bool.false_eq_true, true_and, and_true, Option.bind_some, List.getElem?_cons_succ, List.getElem?_cons_zero, decide_eq_true_eq, Bool.not_eq_true, gput_same, gput_gput, Option.map_some, ↓reduceIte, ite_true, String.reduceBEq, String.reduceEq, decide_true, decide_false, beq_self_eq_true, wat]
    exact r
  · rw [List.nil_append, show od.map (fun j => D.int (w j : Nat)) = intsD' (od.map w) by simp [intsD', Function.comp_def]]
    intro a2 ha2
    have h12 : a1 ≠ a2 := fun z => by rw [← z, gput_same] at ha2; cases ha2
    refine w_sameL (ys := [(List.range gm.length).map w, (List.range gm.length).map w, od.map w]) (l1 := false) (l2 := false) (by simp) (fun es hes => ?_) (by rw [gput_ne h12, gput_same]; rfl) (by rw [gput_same]; rfl) (hrt _)
    simp at hes
    rcases hes with rfl | rfl <;> simp <;> omega

theorem t_18 {x6 x7 x8 x9 x10 x11 x12 x13 x14 x15 x16 x19 x20 x21 x22 x23 x24 x25 : Option D} (hrt : ∀ G, E.rt (.bl true) G) (c : Ctx gm w f) {q : Addr} {od : List Nat} (hq : G q = some (.tpl (intsD' od))) (nd : od.Nodup) (hl : od.length = gm.length) (m : ∀ x, x ∈ od ↔ x < gm.length) : b_law_18 (WF T (k + 19)) E [some (.scr ns), some (.ref p), some (.tup (gm.map spotD)), some (.int (gm.map spotD).length), some (winD gm w), some (rowsD gm w f), x6, x7, x8, x9, x10, x11, x12, x13, x14, x15, x16, some (gameD (liftG gm)), some (.ref q), x19, x20, x21, x22, x23, x24, x25] G := by
  unfold b_law_18
  have hsl : sizeLine = 16777216 := sizeLine_eq
  have most := c.most
  have two := c.two
  have hln : (gm.map spotD).length = gm.length := List.length_map _
  have hn1 : ((gm.map spotD).length : Int).toNat = gm.length := by rw [List.length_map]; omega
  refine seq_gen (fun δ G' => G' = G ∧ δ = [some (.scr ns), some (.ref p), some (.tup (gm.map spotD)), some (.int (gm.map spotD).length), some (winD gm w), some (rowsD gm w f), x6, x7, x8, x9, x10, x11, x12, x13, x14, x15, x16, some (gameD (liftG gm)), some (.ref q), some (gameD (mixG gm od)), x20, x21, x22, x23, x24, x25]) (fun K hK => ?_) ?_
  · simp only [dVar, dC, dTup, dCons, dNil, dMat, dOp, dTest, dAnd, dOr, dNot, dAndV, dOrV, dNotV, dIf, dChain, asB, slot, wipe2, dSeq, dNext, dSet, dRet, dRetN, dDrop, dIfS, dBreak, dCont, dNever, dgName, dgNil, dgCons, dgTup, dAsg, dPar, dAug, dCall, dMeth, tyG, dIsi, isB, dLenQ, dTupQ, dAny, dAll, dMaxL, dLc, dDc, dMatD, dNil0, dYes, pdCopyG, plKeysG, dAugS, sSet, sPut, dSorSetT, dLenSet, oNo, oYes, dSlL, dSlT, dRepL, dIxL, dTpl, fE, qE, dLRng, dRevT, dNeg, iE, iL, iR1, iR2, iK, iEn, dFor, dLock, oAdd, oSub, oMul, oDiv, oMod, oLt, oLe, oGt, oGe, oEq, oNe, oIn, oNotIn, oIx, oIs, oIsNot, oI, SD.isNon, inB, ixB, ixC, eqB_int, eqB_bl, eqB_str, at_nat, atI_0, atI_1, atI_2, atI_3, atI_4, ixN_0, ixN_1, ixN_2, ixN_3, ixN_4, KeyC, lenB, SD.rLen, rInt, rMax2, mAppend, mExtend, mPop, mIndex, mIndexT, mUpdate, intsD, intsOf, bools, List.set_cons_zero, List.set_cons_succ, List.length_cons, List.length_nil, Bool.not_true, Bool.not_false, if_true, if_false, Bool.false_eq_true, true_and, and_true, Option.bind_some, List.getElem?_cons_succ, List.getElem?_cons_zero, decide_eq_true_eq, Bool.not_eq_true, gput_same, gput_gput, Option.map_some, ↓reduceIte, ite_true, String.reduceBEq, String.reduceEq, decide_true, decide_false, beq_self_eq_true, hq]
    refine ⟨by rw [ints_len]; omega, lc_nats (fun j => spotD ((gmOf gm).own j, (gmOf gm).lv j, ((gmOf gm).E j).map fun g => od.idxOf g)) trivial od (fun j hj R1 R0 r => ?_) [] ?_⟩
    · obtain ⟨s, hsj, hown, hlv, hE⟩ := gm_at ((m j).mp hj)
      have few := c.few _ (List.mem_of_getElem? hsj)
      simp only [dVar, dC, dTup, dCons, dNil, dMat, dOp, dTest, dAnd, dOr, dNot, dAndV, dOrV, dNotV, dIf, dChain, asB, slot, wipe2, dSeq, dNext, dSet, dRet, dRetN, dDrop, dIfS, dBreak, dCont, dNever, dgName, dgNil, dgCons, dgTup, dAsg, dPar, dAug, dCall, dMeth, tyG, dIsi, isB, dLenQ, dTupQ, dAny, dAll, dMaxL, dLc, dDc, dMatD, dNil0, dYes, pdCopyG, plKeysG, dAugS, sSet, sPut, dSorSetT, dLenSet, oNo, oYes, dSlL, dSlT, dRepL, dIxL, dTpl, fE, qE, dLRng, dRevT, dNeg, iE, iL, iR1, iR2, iK, iEn, dFor, dLock, oAdd, oSub, oMul, oDiv, oMod, oLt, oLe, oGt, oGe, oEq, oNe, oIn, oNotIn, oIx, oIs, oIsNot, oI, SD.isNon, inB, ixB, ixC, eqB_int, eqB_bl, eqB_str, at_nat, atI_0, atI_1, atI_2, atI_3, atI_4, ixN_0, ixN_1, ixN_2, ixN_3, ixN_4, KeyC, lenB, SD.rLen, rInt, rMax2, mAppend, mExtend, mPop, mIndex, mIndexT, mUpdate, intsD, intsOf, bools, List.set_cons_zero, List.set_cons_succ, List.length_cons, List.length_nil, Bool.not_true, Bool.not_false, if_true, if_false, Bool.false_eq_true, true_and, and_true, Option.bind_some, List.getElem?_cons_succ, List.getElem?_cons_zero, decide_eq_true_eq, Bool.not_eq_true, gput_same, gput_gput, Option.map_some, ↓reduceIte, ite_true, String.reduceBEq, String.reduceEq, decide_true, decide_false, beq_self_eq_true, List.getElem?_map, hsj, spotD]
      rw [hown, hlv, hE] at r
      refine ⟨by rw [ints_len]; omega, lc_nats (fun g => .int (od.idxOf g : Nat)) trivial s.2.2 (fun g hg R1' R0' r' => ?_) [] ?_⟩
      · simp only [dVar, dC, dTup, dCons, dNil, dMat, dOp, dTest, dAnd, dOr, dNot, dAndV, dOrV, dNotV, dIf, dChain, asB, slot, wipe2, dSeq, dNext, dSet, dRet, dRetN, dDrop, dIfS, dBreak, dCont, dNever, dgName, dgNil, dgCons, dgTup, dAsg, dPar, dAug, dCall, dMeth, tyG, dIsi, isB, dLenQ, dTupQ, dAny, dAll, dMaxL, dLc, dDc, dMatD, dNil0, dYes, pdCopyG, plKeysG, dAugS, sSet, sPut, dSorSetT, dLenSet, oNo, oYes, dSlL, dSlT, dRepL, dIxL, dTpl, fE, qE, dLRng, dRevT, dNeg, iE, iL, iR1, iR2, iK, iEn, dFor, dLock, oAdd, oSub, oMul, oDiv, oMod, oLt, oLe, oGt, oGe, oEq, oNe, oIn, oNotIn, oIx, oIs, oIsNot, oI, SD.isNon, inB, ixB, ixC, eqB_int, eqB_bl, eqB_str, at_nat, atI_0, atI_1, atI_2, atI_3, atI_4, ixN_0, ixN_1, ixN_2, ixN_3, ixN_4, KeyC, lenB, SD.rLen, rInt, rMax2, mAppend, mExtend, mPop, mIndex, mIndexT, mUpdate, intsD, intsOf, bools, List.set_cons_zero, List.set_cons_succ, List.length_cons, List.length_nil, Bool.not_true, Bool.not_false, if_true, if_false, Bool.false_eq_true, true_and, and_true, Option.bind_some, List.getElem?_cons_succ, List.getElem?_cons_zero, decide_eq_true_eq, Bool.not_eq_true, gput_same, gput_gput, Option.map_some, ↓reduceIte, ite_true, String.reduceBEq, String.reduceEq, decide_true, decide_false, beq_self_eq_true, hq, intsD_ok, idx_cast]
        exact ⟨List.mem_map.mpr ⟨g, (m g).mpr (c.ok.in_ _ _ hsj g hg), rfl⟩, r'⟩
      · rw [List.nil_append, show s.2.2.map (fun g => D.int (od.idxOf g : Nat)) = intsD' (s.2.2.map fun g => od.idxOf g) by simp [intsD', Function.comp_def]]
        exact r
    · rw [List.nil_append, show od.map (fun j => spotD ((gmOf gm).own j, (gmOf gm).lv j, ((gmOf gm).E j).map fun g => od.idxOf g)) = (mixG gm od).map spotD by rw [mixG, List.map_map]; rfl]
      exact hK _ _ ⟨rfl, rfl⟩
  rintro δ G' ⟨rfl, rfl⟩
  exact t_19 hrt c hq nd hl m

theorem t_17 {x6 x7 x8 x9 x10 x11 x12 x13 x14 x15 x16 x18 x19 x20 x21 x22 x23 x24 x25 : Option D} (hrt : ∀ G, E.rt (.bl true) G) (c : Ctx gm w f) (P : PoolOk G p sc 102) : b_law_17 (WF T (k + 19)) E [some (.scr ns), some (.ref p), some (.tup (gm.map spotD)), some (.int (gm.map spotD).length), some (winD gm w), some (rowsD gm w f), x6, x7, x8, x9, x10, x11, x12, x13, x14, x15, x16, some (gameD (liftG gm)), x18, x19, x20, x21, x22, x23, x24, x25] G := by
  unfold b_law_17
  have hsl : sizeLine = 16777216 := sizeLine_eq
  have most := c.most
  have two := c.two
  have hln : (gm.map spotD).length = gm.length := List.length_map _
  have hn1 : ((gm.map spotD).length : Int).toNat = gm.length := by rw [List.length_map]; omega
  refine seq_i ?_
  simp only [dVar, dC, dTup, dCons, dNil, dMat, dOp, dTest, dAnd, dOr, dNot, dAndV, dOrV, dNotV, dIf, dChain, asB, slot, wipe2, dSeq, dNext, dSet, dRet, dRetN, dDrop, dIfS, dBreak, dCont, dNever, dgName, dgNil, dgCons, dgTup, dAsg, dPar, dAug, dCall, dMeth, tyG, dIsi, isB, dLenQ, dTupQ, dAny, dAll, dMaxL, dLc, dDc, dMatD, dNil0, dYes, pdCopyG, plKeysG, dAugS, sSet, sPut, dSorSetT, dLenSet, oNo, oYes, dSlL, dSlT, dRepL, dIxL, dTpl, fE, qE, dLRng, dRevT, dNeg, iE, iL, iR1, iR2, iK, iEn, dFor, dLock, oAdd, oSub, oMul, oDiv, oMod, oLt, oLe, oGt, oGe, oEq, oNe, oIn, oNotIn, oIx, oIs, oIsNot, oI, SD.isNon, inB, ixB, ixC, eqB_int, eqB_bl, eqB_str, at_nat, atI_0, atI_1, atI_2, atI_3, atI_4, ixN_0, ixN_1, ixN_2, ixN_3, ixN_4, KeyC, lenB, SD.rLen, rInt, rMax2, mAppend, mExtend, mPop, mIndex, mIndexT, mUpdate, intsD, intsOf, bools, List.set_cons_zero, List.set_cons_succ, List.length_cons, List.length_nil, Bool.not_true, Bool.not_false, if_true, if_false, Bool.false_eq_true, true_and, and_true, Option.bind_some, List.getElem?_cons_succ, List.getElem?_cons_zero, decide_eq_true_eq, Bool.not_eq_true, gput_same, gput_gput, Option.map_some, ↓reduceIte, ite_true, String.reduceBEq, String.reduceEq, decide_true, decide_false, beq_self_eq_true]
  refine ⟨by omega, by omega, fun it hit => ?_⟩
  rw [hn1]
  obtain ⟨_, ⟨mp, hmp⟩, ⟨msc, hmsc⟩⟩ := P.ne
  have a1 : p ≠ it := fun z => by rw [z, hit] at hmp; cases hmp
  have a2 : sc ≠ it := fun z => by rw [z, hit] at hmsc; cases hmsc
  refine w_shuffled (n := gm.length) (P.of (Nat.le_refl _) (gput_ne a1) (gput_ne a2)) (by omega) (by rw [bigN_eq]; omega) gput_same a1.symm fun q od G' nd m hq _ _ _ => ?_
  have hl : od.length = gm.length := by
    have : od.Perm (List.range gm.length) := (List.perm_ext_iff_of_nodup nd List.nodup_range).mpr fun x => by rw [m, List.mem_range]
    simpa using this.length_eq
  exact t_18 hrt c hq nd hl m

theorem t_16 {x6 x7 x8 x9 x10 x11 x12 x13 x14 x15 x16 x17 x18 x19 x20 x21 x22 x23 x24 x25 : Option D} (hrt : ∀ G, E.rt (.bl true) G) (c : Ctx gm w f) (P : PoolOk G p sc 102) : b_law_16 (WF T (k + 19)) E [some (.scr ns), some (.ref p), some (.tup (gm.map spotD)), some (.int (gm.map spotD).length), some (winD gm w), some (rowsD gm w f), x6, x7, x8, x9, x10, x11, x12, x13, x14, x15, x16, x17, x18, x19, x20, x21, x22, x23, x24, x25] G := by
  unfold b_law_16
  have hsl : sizeLine = 16777216 := sizeLine_eq
  have most := c.most
  have two := c.two
  have hln : (gm.map spotD).length = gm.length := List.length_map _
  have hn1 : ((gm.map spotD).length : Int).toNat = gm.length := by rw [List.length_map]; omega
  refine seq_gen (fun δ G' => G' = G ∧ δ = [some (.scr ns), some (.ref p), some (.tup (gm.map spotD)), some (.int (gm.map spotD).length), some (winD gm w), some (rowsD gm w f), x6, x7, x8, x9, x10, x11, x12, x13, x14, x15, x16, some (gameD (liftG gm)), x18, x19, x20, x21, x22, x23, x24, x25]) (fun K hK => ?_) ?_
  · simp only [dVar, dC, dTup, dCons, dNil, dMat, dOp, dTest, dAnd, dOr, dNot, dAndV, dOrV, dNotV, dIf, dChain, asB, slot, wipe2, dSeq, dNext, dSet, dRet, dRetN, dDrop, dIfS, dBreak, dCont, dNever, dgName, dgNil, dgCons, dgTup, dAsg, dPar, dAug, dCall, dMeth, tyG, dIsi, isB, dLenQ, dTupQ, dAny, dAll, dMaxL, dLc, dDc, dMatD, dNil0, dYes, pdCopyG, plKeysG, dAugS, sSet, sPut, dSorSetT, dLenSet, oNo, oYes, dSlL, dSlT, dRepL, dIxL, dTpl, fE, qE, dLRng, dRevT, dNeg, iE, iL, iR1, iR2, iK, iEn, dFor, dLock, oAdd, oSub, oMul, oDiv, oMod, oLt, oLe, oGt, oGe, oEq, oNe, oIn, oNotIn, oIx, oIs, oIsNot, oI, SD.isNon, inB, ixB, ixC, eqB_int, eqB_bl, eqB_str, at_nat, atI_0, atI_1, atI_2, atI_3, atI_4, ixN_0, ixN_1, ixN_2, ixN_3, ixN_4, KeyC, lenB, SD.rLen, rInt, rMax2, mAppend, mExtend, mPop, mIndex, mIndexT, mUpdate, intsD, intsOf, bools, List.set_cons_zero, List.set_cons_succ, List.length_cons, List.length_nil, Bool.not_true, Bool.not_false, if_true, if_false, Bool.false_eq_true, true_and, and_true, Option.bind_some, List.getElem?_cons_succ, List.getElem?_cons_zero, decide_eq_true_eq, Bool.not_eq_true, gput_same, gput_gput, Option.map_some, ↓reduceIte, ite_true, String.reduceBEq, String.reduceEq, decide_true, decide_false, beq_self_eq_true]
    refine ⟨by omega, lc_spots (fun s => (s.1, s.2.1 + 2, s.2.2)) trivial gm (fun s hs R1 R0 r => ?_) [] ?_⟩
    · simp only [dVar, dC, dTup, dCons, dNil, dMat, dOp, dTest, dAnd, dOr, dNot, dAndV, dOrV, dNotV, dIf, dChain, asB, slot, wipe2, dSeq, dNext, dSet, dRet, dRetN, dDrop, dIfS, dBreak, dCont, dNever, dgName, dgNil, dgCons, dgTup, dAsg, dPar, dAug, dCall, dMeth, tyG, dIsi, isB, dLenQ, dTupQ, dAny, dAll, dMaxL, dLc, dDc, dMatD, dNil0, dYes, pdCopyG, plKeysG, dAugS, sSet, sPut, dSorSetT, dLenSet, oNo, oYes, dSlL, dSlT, dRepL, dIxL, dTpl, fE, qE, dLRng, dRevT, dNeg, iE, iL, iR1, iR2, iK, iEn, dFor, dLock, oAdd, oSub, oMul, oDiv, oMod, oLt, oLe, oGt, oGe, oEq, oNe, oIn, oNotIn, oIx, oIs, oIsNot, oI, SD.isNon, inB, ixB, ixC, eqB_int, eqB_bl, eqB_str, at_nat, atI_0, atI_1, atI_2, atI_3, atI_4, ixN_0, ixN_1, ixN_2, ixN_3, ixN_4, KeyC, lenB, SD.rLen, rInt, rMax2, mAppend, mExtend, mPop, mIndex, mIndexT, mUpdate, intsD, intsOf, bools, List.set_cons_zero, List.set_cons_succ, List.length_cons, List.length_nil, Bool.not_true, Bool.not_false, if_true, if_false, Bool.false_eq_true, true_and, and_true, Option.bind_some, List.getElem?_cons_succ, List.getElem?_cons_zero, decide_eq_true_eq, Bool.not_eq_true, gput_same, gput_gput, Option.map_some, ↓reduceIte, ite_true, String.reduceBEq, String.reduceEq, decide_true, decide_false, beq_self_eq_true, spotD]
      exact r
    · exact hK _ _ ⟨rfl, rfl⟩
  rintro δ G' ⟨rfl, rfl⟩
  exact t_17 hrt c P

theorem t_15 {x6 x8 x10 x11 x17 x18 x19 x20 x21 x22 x23 x24 x25 : Option D} (hrt : ∀ G, E.rt (.bl true) G) (c : Ctx gm w f) {kk gg : Nat} {s : Spot} (hs : gm[kk]? = some s) (hgg : gg < gm.length) {w' f' : Nat → Nat} (sol' : Sol (moreG gm kk (moreS s gg)) w' f') (P : PoolOk G p sc 102) : b_law_15 (WF T (k + 19)) E [some (.scr ns), some (.ref p), some (.tup (gm.map spotD)), some (.int (gm.map spotD).length), some (winD gm w), some (rowsD gm w f), x6, some (.int kk), x8, some (.int gg), x10, x11, some (.int s.1), some (.int s.2.1), some (.tup (intsD' s.2.2)), some (gameD (moreG gm kk (moreS s gg))), some (winD gm w'), x17, x18, x19, x20, x21, x22, x23, x24, x25] G := by
  unfold b_law_15
  have hsl : sizeLine = 16777216 := sizeLine_eq
  have most := c.most
  have two := c.two
  have hln : (gm.map spotD).length = gm.length := List.length_map _
  have hn1 : ((gm.map spotD).length : Int).toNat = gm.length := by rw [List.length_map]; omega
  refine seq_gen (fun δ G' => G' = G ∧ δ = [some (.scr ns), some (.ref p), some (.tup (gm.map spotD)), some (.int (gm.map spotD).length), some (winD gm w), some (rowsD gm w f), x6, some (.int kk), x8, some (.int gg), x10, x11, some (.int s.1), some (.int s.2.1), some (.tup (intsD' s.2.2)), some (gameD (moreG gm kk (moreS s gg))), some (winD gm w'), x17, x18, x19, x20, x21, x22, x23, x24, x25]) (fun K hK => ?_) ?_
  · unfold winD
    have hkk : kk < gm.length := (List.getElem?_eq_some_iff.mp hs).1
    have K1 := more_keeps c.ok hs hgg (c.few s (List.mem_of_getElem? hs)) c.sol sol'
    have wat : (intsD' ((List.range gm.length).map w))[kk]? = some (.int (w kk)) := by simp [intsD', hkk]
    refine if_i ?_
    simp only [dVar, dC, dTup, dCons, dNil, dMat, dOp, dTest, dAnd, dOr, dNot, dAndV, dOrV, dNotV, dIf, dChain, asB, slot, wipe2, dSeq, dNext, dSet, dRet, dRetN, dDrop, dIfS, dBreak, dCont, dNever, dgName, dgNil, dgCons, dgTup, dAsg, dPar, dAug, dCall, dMeth, tyG, dIsi, isB, dLenQ, dTupQ, dAny, dAll, dMaxL, dLc, dDc, dMatD, dNil0, dYes, pdCopyG, plKeysG, dAugS, sSet, sPut, dSorSetT, dLenSet, oNo, oYes, dSlL, dSlT, dRepL, dIxL, dTpl, fE, qE, dLRng, dRevT, dNeg, iE, iL, iR1, iR2, iK, iEn, dFor, dLock, oAdd, oSub, oMul, oDiv, oMod, oLt, oLe, oGt, oGe, oEq, oNe, oIn, oNotIn, oIx, oIs, oIsNot, oI, SD.isNon, inB, ixB, ixC, eqB_int, eqB_bl, eqB_str, at_nat, atI_0, atI_1, atI_2, atI_3, atI_4, ixN_0, ixN_1, ixN_2, ixN_3, ixN_4, KeyC, lenB, SD.rLen, rInt, rMax2, mAppend, mExtend, mPop, mIndex, mIndexT, mUpdate, intsD, intsOf, bools, List.set_cons_zero, List.set_cons_succ, List.length_cons, List.length_nil, Bool.not_true, Bool.not_false, if_true, if_false, Bool.false_eq_true, true_and, and_true, Option.bind_some, List.getElem?_cons_succ, List.getElem?_cons_zero, decide_eq_true_eq, Bool.not_eq_true, gput_same, gput_gput, Option.map_some, ↓reduceIte, ite_true, String.reduceBEq, String.reduceEq, decide_true, decide_false, beq_self_eq_true, wat]
    refine ite2 (fun h => ?_) fun h => ?_
    · have e1 : (List.range gm.length).map w' = (List.range gm.length).map w := List.map_congr_left fun j hj => K1.2 (by omega) j (List.mem_range.mp hj)
      have hk2 := hK _ G ⟨rfl, by unfold winD; rfl⟩
      rw [eqB_ints, decide_eq_true e1]
      simp only [dVar, dC, dTup, dCons, dNil, dMat, dOp, dTest, dAnd, dOr, dNot, dAndV, dOrV, dNotV, dIf, dChain, asB, slot, wipe2, dSeq, dNext, dSet, dRet, dRetN, dDrop, dIfS, dBreak, dCont, dNever, dgName, dgNil, dgCons, dgTup, dAsg, dPar, dAug, dCall, dMeth, tyG, dIsi, isB, dLenQ, dTupQ, dAny, dAll, dMaxL, dLc, dDc, dMatD, dNil0, dYes, pdCopyG, plKeysG, dAugS, sSet, sPut, dSorSetT, dLenSet, oNo, oYes, dSlL, dSlT, dRepL, dIxL, dTpl, fE, qE, dLRng, dRevT, dNeg, iE, iL, iR1, iR2, iK, iEn, dFor, dLock, oAdd, oSub, oMul, oDiv, oMod, oLt, oLe, oGt, oGe, oEq, oNe, oIn, oNotIn, oIx, oIs, oIsNot, oI, SD.isNon, inB, ixB, ixC, eqB_int, eqB_bl, eqB_str, at_nat, atI_0, atI_1, atI_2, atI_3, atI_4, ixN_0, ixN_1, ixN_2, ixN_3, ixN_4, KeyC, lenB, SD.rLen, rInt, rMax2, mAppend, mExtend, mPop, mIndex, mIndexT, mUpdate, intsD, intsOf, bools, List.set_cons_zero, List.set_cons_succ, List.length_cons, List.length_nil, Bool.not_true, Bool.not_false, if_true, if_false, Bool.false_eq_true, true_and, and_true, Option.bind_some, List.getElem?_cons_succ, List.getElem?_cons_zero, decide_eq_true_eq, Bool.not_eq_true, gput_same, gput_gput, Option.map_some, ↓reduceIte, ite_true, String.reduceBEq, String.reduceEq, decide_true, decide_false, beq_self_eq_true]
      exact hk2
    · exact hK _ _ ⟨rfl, rfl⟩
  rintro δ G' ⟨rfl, rfl⟩
  exact t_16 hrt c P

theorem t_14 {x6 x8 x10 x11 x17 x18 x19 x20 x21 x22 x23 x24 x25 : Option D} (hrt : ∀ G, E.rt (.bl true) G) (c : Ctx gm w f) {kk gg : Nat} {s : Spot} (hs : gm[kk]? = some s) (hgg : gg < gm.length) {w' f' : Nat → Nat} (sol' : Sol (moreG gm kk (moreS s gg)) w' f') (P : PoolOk G p sc 102) : b_law_14 (WF T (k + 19)) E [some (.scr ns), some (.ref p), some (.tup (gm.map spotD)), some (.int (gm.map spotD).length), some (winD gm w), some (rowsD gm w f), x6, some (.int kk), x8, some (.int gg), x10, x11, some (.int s.1), some (.int s.2.1), some (.tup (intsD' s.2.2)), some (gameD (moreG gm kk (moreS s gg))), some (winD gm w'), x17, x18, x19, x20, x21, x22, x23, x24, x25] G := by
  unfold b_law_14
  have hsl : sizeLine = 16777216 := sizeLine_eq
  have most := c.most
  have two := c.two
  have hln : (gm.map spotD).length = gm.length := List.length_map _
  have hn1 : ((gm.map spotD).length : Int).toNat = gm.length := by rw [List.length_map]; omega
  refine seq_gen (fun δ G' => G' = G ∧ δ = [some (.scr ns), some (.ref p), some (.tup (gm.map spotD)), some (.int (gm.map spotD).length), some (winD gm w), some (rowsD gm w f), x6, some (.int kk), x8, some (.int gg), x10, x11, some (.int s.1), some (.int s.2.1), some (.tup (intsD' s.2.2)), some (gameD (moreG gm kk (moreS s gg))), some (winD gm w'), x17, x18, x19, x20, x21, x22, x23, x24, x25]) (fun K hK => ?_) ?_
  · unfold winD
    have K1 := more_keeps c.ok hs hgg (c.few s (List.mem_of_getElem? hs)) c.sol sol'
    refine if_i ?_
    simp only [dVar, dC, dTup, dCons, dNil, dMat, dOp, dTest, dAnd, dOr, dNot, dAndV, dOrV, dNotV, dIf, dChain, asB, slot, wipe2, dSeq, dNext, dSet, dRet, dRetN, dDrop, dIfS, dBreak, dCont, dNever, dgName, dgNil, dgCons, dgTup, dAsg, dPar, dAug, dCall, dMeth, tyG, dIsi, isB, dLenQ, dTupQ, dAny, dAll, dMaxL, dLc, dDc, dMatD, dNil0, dYes, pdCopyG, plKeysG, dAugS, sSet, sPut, dSorSetT, dLenSet, oNo, oYes, dSlL, dSlT, dRepL, dIxL, dTpl, fE, qE, dLRng, dRevT, dNeg, iE, iL, iR1, iR2, iK, iEn, dFor, dLock, oAdd, oSub, oMul, oDiv, oMod, oLt, oLe, oGt, oGe, oEq, oNe, oIn, oNotIn, oIx, oIs, oIsNot, oI, SD.isNon, inB, ixB, ixC, eqB_int, eqB_bl, eqB_str, at_nat, atI_0, atI_1, atI_2, atI_3, atI_4, ixN_0, ixN_1, ixN_2, ixN_3, ixN_4, KeyC, lenB, SD.rLen, rInt, rMax2, mAppend, mExtend, mPop, mIndex, mIndexT, mUpdate, intsD, intsOf, bools, List.set_cons_zero, List.set_cons_succ, List.length_cons, List.length_nil, Bool.not_true, Bool.not_false, if_true, if_false, Bool.false_eq_true, true_and, and_true, Option.bind_some, List.getElem?_cons_succ, List.getElem?_cons_zero, decide_eq_true_eq, Bool.not_eq_true, gput_same, gput_gput, Option.map_some, ↓reduceIte, ite_true, String.reduceBEq, String.reduceEq, decide_true, decide_false, beq_self_eq_true]
    rw [hn1, rngD0]
    refine ⟨by rw [hln]; omega, by simp; omega, lc_nothing trivial (List.range gm.length) (fun j hj R1 R0 r => ?_) ?_⟩
    · have hj' := List.mem_range.mp hj
      have wat : (intsD' ((List.range gm.length).map w))[j]? = some (.int (w j)) := by simp [intsD', hj']
      have wat' : (intsD' ((List.range gm.length).map w'))[j]? = some (.int (w' j)) := by simp [intsD', hj']
      simp only [dVar, dC, dTup, dCons, dNil, dMat, dOp, dTest, dAnd, dOr, dNot, dAndV, dOrV, dNotV, dIf, dChain, asB, slot, wipe2, dSeq, dNext, dSet, dRet, dRetN, dDrop, dIfS, dBreak, dCont, dNever, dgName, dgNil, dgCons, dgTup, dAsg, dPar, dAug, dCall, dMeth, tyG, dIsi, isB, dLenQ, dTupQ, dAny, dAll, dMaxL, dLc, dDc, dMatD, dNil0, dYes, pdCopyG, plKeysG, dAugS, sSet, sPut, dSorSetT, dLenSet, oNo, oYes, dSlL, dSlT, dRepL, dIxL, dTpl, fE, qE, dLRng, dRevT, dNeg, iE, iL, iR1, iR2, iK, iEn, dFor, dLock, oAdd, oSub, oMul, oDiv, oMod, oLt, oLe, oGt, oGe, oEq, oNe, oIn, oNotIn, oIx, oIs, oIsNot, oI, SD.isNon, inB, ixB, ixC, eqB_int, eqB_bl, eqB_str, at_nat, atI_0, atI_1, atI_2, atI_3, atI_4, ixN_0, ixN_1, ixN_2, ixN_3, ixN_4, KeyC, lenB, SD.rLen, rInt, rMax2, mAppend, mExtend, mPop, mIndex, mIndexT, mUpdate, intsD, intsOf, bools, List.set_cons_zero, List.set_cons_succ, List.length_cons, List.length_nil, Bool.not_true, Bool.not_false, if_true, if_false, Bool.false_eq_true, true_and, and_true, Option.bind_some, List.getElem?_cons_succ, List.getElem?_cons_zero, decide_eq_true_eq, Bool.not_eq_true, gput_same, gput_gput, Option.map_some, ↓reduceIte, ite_true, String.reduceBEq, String.reduceEq, decide_true, decide_false, beq_self_eq_true, wat, wat']
      refine ite2 (fun h => ?_) fun h => r
      have h2 : ((w' j : Int) = (s.1 : Int)) := by have := K1.1 j hj' (by omega); omega
      rw [decide_eq_true h2]
      simp only [dVar, dC, dTup, dCons, dNil, dMat, dOp, dTest, dAnd, dOr, dNot, dAndV, dOrV, dNotV, dIf, dChain, asB, slot, wipe2, dSeq, dNext, dSet, dRet, dRetN, dDrop, dIfS, dBreak, dCont, dNever, dgName, dgNil, dgCons, dgTup, dAsg, dPar, dAug, dCall, dMeth, tyG, dIsi, isB, dLenQ, dTupQ, dAny, dAll, dMaxL, dLc, dDc, dMatD, dNil0, dYes, pdCopyG, plKeysG, dAugS, sSet, sPut, dSorSetT, dLenSet, oNo, oYes, dSlL, dSlT, dRepL, dIxL, dTpl, fE, qE, dLRng, dRevT, dNeg, iE, iL, iR1, iR2, iK, iEn, dFor, dLock, oAdd, oSub, oMul, oDiv, oMod, oLt, oLe, oGt, oGe, oEq, oNe, oIn, oNotIn, oIx, oIs, oIsNot, oI, SD.isNon, inB, ixB, ixC, eqB_int, eqB_bl, eqB_str, at_nat, atI_0, atI_1, atI_2, atI_3, atI_4, ixN_0, ixN_1, ixN_2, ixN_3, ixN_4, KeyC, lenB, SD.rLen, rInt, rMax2, mAppend, mExtend, mPop, mIndex, mIndexT, mUpdate, intsD, intsOf, bools, List.set_cons_zero, List.set_cons_succ, List.length_cons, List.length_nil, Bool.not_true, Bool.not_false, if_true, if_false, Bool.false_eq_true, true_and, and_true, Option.bind_some, List.getElem?_cons_succ, List.getElem?_cons_zero, decide_eq_true_eq, Bool.not_eq_true, gput_same, gput_gput, Option.map_some, ↓reduceIte, ite_true, String.reduceBEq, String.reduceEq, decide_true, decide_false, beq_self_eq_true]
      exact r
    · simp only [dVar, dC, dTup, dCons, dNil, dMat, dOp, dTest, dAnd, dOr, dNot, dAndV, dOrV, dNotV, dIf, dChain, asB, slot, wipe2, dSeq, dNext, dSet, dRet, dRetN, dDrop, dIfS, dBreak, dCont, dNever, dgName, dgNil, dgCons, dgTup, dAsg, dPar, dAug, dCall, dMeth, tyG, dIsi, isB, dLenQ, dTupQ, dAny, dAll, dMaxL, dLc, dDc, dMatD, dNil0, dYes, pdCopyG, plKeysG, dAugS, sSet, sPut, dSorSetT, dLenSet, oNo, oYes, dSlL, dSlT, dRepL, dIxL, dTpl, fE, qE, dLRng, dRevT, dNeg, iE, iL, iR1, iR2, iK, iEn, dFor, dLock, oAdd, oSub, oMul, oDiv, oMod, oLt, oLe, oGt, oGe, oEq, oNe, oIn, oNotIn, oIx, oIs, oIsNot, oI, SD.isNon, inB, ixB, ixC, eqB_int, eqB_bl, eqB_str, at_nat, atI_0, atI_1, atI_2, atI_3, atI_4, ixN_0, ixN_1, ixN_2, ixN_3, ixN_4, KeyC, lenB, SD.rLen, rInt, rMax2, mAppend, mExtend, mPop, mIndex, mIndexT, mUpdate, intsD, intsOf, bools, List.set_cons_zero, List.set_cons_succ, List.length_cons, List.length_nil, Bool.not_true, Bool.not_false, if_true, if_false, Bool.false_eq_true, true_and, and_true, Option.bind_some, List.getElem?_cons_succ, List.getElem?_cons_zero, decide_eq_true_eq, Bool.not_eq_true, gput_same, gput_gput, Option.map_some, ↓reduceIte, ite_true, String.reduceBEq, String.reduceEq, decide_true, decide_false, beq_self_eq_true]
      rw [if_neg (by decide)]
      exact hK _ _ ⟨rfl, rfl⟩
  rintro δ G' ⟨rfl, rfl⟩
  exact t_15 hrt c hs hgg sol' P

theorem t_13 {x6 x8 x10 x11 x16 x17 x18 x19 x20 x21 x22 x23 x24 x25 : Option D} (hrt : ∀ G, E.rt (.bl true) G) (c : Ctx gm w f) {kk gg : Nat} {s : Spot} (hs : gm[kk]? = some s) (hgg : gg < gm.length) (P : PoolOk G p sc 102) : b_law_13 (WF T (k + 19)) E [some (.scr ns), some (.ref p), some (.tup (gm.map spotD)), some (.int (gm.map spotD).length), some (winD gm w), some (rowsD gm w f), x6, some (.int kk), x8, some (.int gg), x10, x11, some (.int s.1), some (.int s.2.1), some (.tup (intsD' s.2.2)), some (gameD (moreG gm kk (moreS s gg))), x16, x17, x18, x19, x20, x21, x22, x23, x24, x25] G := by
  unfold b_law_13
  have hsl : sizeLine = 16777216 := sizeLine_eq
  have most := c.most
  have two := c.two
  have hln : (gm.map spotD).length = gm.length := List.length_map _
  have hn1 : ((gm.map spotD).length : Int).toNat = gm.length := by rw [List.length_map]; omega
  refine seq_i ?_
  have few := c.few s (List.mem_of_getElem? hs)
  have hkk : kk < gm.length := (List.getElem?_eq_some_iff.mp hs).1
  simp only [dVar, dC, dTup, dCons, dNil, dMat, dOp, dTest, dAnd, dOr, dNot, dAndV, dOrV, dNotV, dIf, dChain, asB, slot, wipe2, dSeq, dNext, dSet, dRet, dRetN, dDrop, dIfS, dBreak, dCont, dNever, dgName, dgNil, dgCons, dgTup, dAsg, dPar, dAug, dCall, dMeth, tyG, dIsi, isB, dLenQ, dTupQ, dAny, dAll, dMaxL, dLc, dDc, dMatD, dNil0, dYes, pdCopyG, plKeysG, dAugS, sSet, sPut, dSorSetT, dLenSet, oNo, oYes, dSlL, dSlT, dRepL, dIxL, dTpl, fE, qE, dLRng, dRevT, dNeg, iE, iL, iR1, iR2, iK, iEn, dFor, dLock, oAdd, oSub, oMul, oDiv, oMod, oLt, oLe, oGt, oGe, oEq, oNe, oIn, oNotIn, oIx, oIs, oIsNot, oI, SD.isNon, inB, ixB, ixC, eqB_int, eqB_bl, eqB_str, at_nat, atI_0, atI_1, atI_2, atI_3, atI_4, ixN_0, ixN_1, ixN_2, ixN_3, ixN_4, KeyC, lenB, SD.rLen, rInt, rMax2, mAppend, mExtend, mPop, mIndex, mIndexT, mUpdate, intsD, intsOf, bools, List.set_cons_zero, List.set_cons_succ, List.length_cons, List.length_nil, Bool.not_true, Bool.not_false, if_true, if_false, Bool.false_eq_true, true_and, and_true, Option.bind_some, List.getElem?_cons_succ, List.getElem?_cons_zero, decide_eq_true_eq, Bool.not_eq_true, gput_same, gput_gput, Option.map_some, ↓reduceIte, ite_true, String.reduceBEq, String.reduceEq, decide_true, decide_false, beq_self_eq_true]
  refine w_solved (L := 5) (more_ok c.ok hs hgg few) (more_lv hs c.lv) (by omega) fun w' f' sol' => ?_
  simp only [dVar, dC, dTup, dCons, dNil, dMat, dOp, dTest, dAnd, dOr, dNot, dAndV, dOrV, dNotV, dIf, dChain, asB, slot, wipe2, dSeq, dNext, dSet, dRet, dRetN, dDrop, dIfS, dBreak, dCont, dNever, dgName, dgNil, dgCons, dgTup, dAsg, dPar, dAug, dCall, dMeth, tyG, dIsi, isB, dLenQ, dTupQ, dAny, dAll, dMaxL, dLc, dDc, dMatD, dNil0, dYes, pdCopyG, plKeysG, dAugS, sSet, sPut, dSorSetT, dLenSet, oNo, oYes, dSlL, dSlT, dRepL, dIxL, dTpl, fE, qE, dLRng, dRevT, dNeg, iE, iL, iR1, iR2, iK, iEn, dFor, dLock, oAdd, oSub, oMul, oDiv, oMod, oLt, oLe, oGt, oGe, oEq, oNe, oIn, oNotIn, oIx, oIs, oIsNot, oI, SD.isNon, inB, ixB, ixC, eqB_int, eqB_bl, eqB_str, at_nat, atI_0, atI_1, atI_2, atI_3, atI_4, ixN_0, ixN_1, ixN_2, ixN_3, ixN_4, KeyC, lenB, SD.rLen, rInt, rMax2, mAppend, mExtend, mPop, mIndex, mIndexT, mUpdate, intsD, intsOf, bools, List.set_cons_zero, List.set_cons_succ, List.length_cons, List.length_nil, Bool.not_true, Bool.not_false, if_true, if_false, Bool.false_eq_true, true_and, and_true, Option.bind_some, List.getElem?_cons_succ, List.getElem?_cons_zero, decide_eq_true_eq, Bool.not_eq_true, gput_same, gput_gput, Option.map_some, ↓reduceIte, ite_true, String.reduceBEq, String.reduceEq, decide_true, decide_false, beq_self_eq_true]
  have := t_14 (k := k) (E := E) (ns := ns) (p := p) (f := f) (x6 := x6) (x8 := x8) (x10 := x10) (x11 := x11) (x17 := x17) (x18 := x18) (x19 := x19) (x20 := x20) (x21 := x21) (x22 := x22) (x23 := x23) (x24 := x24) (x25 := x25) hrt c hs hgg sol' P
  unfold winD at this ⊢
  rw [more_len hkk]
  exact this

theorem t_12 {x6 x8 x10 x11 x15 x16 x17 x18 x19 x20 x21 x22 x23 x24 x25 : Option D} (hrt : ∀ G, E.rt (.bl true) G) (c : Ctx gm w f) {kk gg : Nat} {s : Spot} (hs : gm[kk]? = some s) (hgg : gg < gm.length) (P : PoolOk G p sc 102) : b_law_12 (WF T (k + 19)) E [some (.scr ns), some (.ref p), some (.tup (gm.map spotD)), some (.int (gm.map spotD).length), some (winD gm w), some (rowsD gm w f), x6, some (.int kk), x8, some (.int gg), x10, x11, some (.int s.1), some (.int s.2.1), some (.tup (intsD' s.2.2)), x15, x16, x17, x18, x19, x20, x21, x22, x23, x24, x25] G := by
  unfold b_law_12
  have hsl : sizeLine = 16777216 := sizeLine_eq
  have most := c.most
  have two := c.two
  have hln : (gm.map spotD).length = gm.length := List.length_map _
  have hn1 : ((gm.map spotD).length : Int).toNat = gm.length := by rw [List.length_map]; omega
  refine seq_gen (fun δ G' => G' = G ∧ δ = [some (.scr ns), some (.ref p), some (.tup (gm.map spotD)), some (.int (gm.map spotD).length), some (winD gm w), some (rowsD gm w f), x6, some (.int kk), x8, some (.int gg), x10, x11, some (.int s.1), some (.int s.2.1), some (.tup (intsD' s.2.2)), some (gameD (moreG gm kk (moreS s gg))), x16, x17, x18, x19, x20, x21, x22, x23, x24, x25]) (fun K hK => ?_) ?_
  · simp only [dVar, dC, dTup, dCons, dNil, dMat, dOp, dTest, dAnd, dOr, dNot, dAndV, dOrV, dNotV, dIf, dChain, asB, slot, wipe2, dSeq, dNext, dSet, dRet, dRetN, dDrop, dIfS, dBreak, dCont, dNever, dgName, dgNil, dgCons, dgTup, dAsg, dPar, dAug, dCall, dMeth, tyG, dIsi, isB, dLenQ, dTupQ, dAny, dAll, dMaxL, dLc, dDc, dMatD, dNil0, dYes, pdCopyG, plKeysG, dAugS, sSet, sPut, dSorSetT, dLenSet, oNo, oYes, dSlL, dSlT, dRepL, dIxL, dTpl, fE, qE, dLRng, dRevT, dNeg, iE, iL, iR1, iR2, iK, iEn, dFor, dLock, oAdd, oSub, oMul, oDiv, oMod, oLt, oLe, oGt, oGe, oEq, oNe, oIn, oNotIn, oIx, oIs, oIsNot, oI, SD.isNon, inB, ixB, ixC, eqB_int, eqB_bl, eqB_str, at_nat, atI_0, atI_1, atI_2, atI_3, atI_4, ixN_0, ixN_1, ixN_2, ixN_3, ixN_4, KeyC, lenB, SD.rLen, rInt, rMax2, mAppend, mExtend, mPop, mIndex, mIndexT, mUpdate, intsD, intsOf, bools, List.set_cons_zero, List.set_cons_succ, List.length_cons, List.length_nil, Bool.not_true, Bool.not_false, if_true, if_false, Bool.false_eq_true, true_and, and_true, Option.bind_some, List.getElem?_cons_succ, List.getElem?_cons_zero, decide_eq_true_eq, Bool.not_eq_true, gput_same, gput_gput, Option.map_some, ↓reduceIte, ite_true, String.reduceBEq, String.reduceEq, decide_true, decide_false, beq_self_eq_true]
    rw [cutD_take, show ((kk : Int) + 1) = ((kk + 1 : Nat) : Int) by omega, cutD_drop]
    have few := c.few s (List.mem_of_getElem? hs)
    have lt : ((gm.map spotD).take kk).length ≤ gm.length := by rw [List.length_take]; omega
    have ld : ((gm.map spotD).drop (kk + 1)).length ≤ gm.length := by rw [List.length_drop]; omega
    have ls := ints_len s.2.2
    refine ⟨by omega, by omega, by rw [List.length_append, List.length_singleton]; omega, ?_⟩
    have e1 : D.tup ((gm.map spotD).take kk ++ [D.tup [D.int s.1, D.int s.2.1, D.tup (intsD' s.2.2 ++ [D.int gg])]] ++ (gm.map spotD).drop (kk + 1)) = gameD (moreG gm kk (moreS s gg)) := by
      unfold gameD moreG moreS
      rw [List.map_append, List.map_append, List.map_take, List.map_drop]
      simp [spotD, intsD']
    rw [e1]
    exact hK _ _ ⟨rfl, rfl⟩
  rintro δ G' ⟨rfl, rfl⟩
  exact t_13 hrt c hs hgg P

theorem t_11 {x6 x8 x10 x11 x12 x13 x14 x15 x16 x17 x18 x19 x20 x21 x22 x23 x24 x25 : Option D} (hrt : ∀ G, E.rt (.bl true) G) (c : Ctx gm w f) {kk gg : Nat} {s : Spot} (hs : gm[kk]? = some s) (hgg : gg < gm.length) (P : PoolOk G p sc 102) : b_law_11 (WF T (k + 19)) E [some (.scr ns), some (.ref p), some (.tup (gm.map spotD)), some (.int (gm.map spotD).length), some (winD gm w), some (rowsD gm w f), x6, some (.int kk), x8, some (.int gg), x10, x11, x12, x13, x14, x15, x16, x17, x18, x19, x20, x21, x22, x23, x24, x25] G := by
  unfold b_law_11
  have hsl : sizeLine = 16777216 := sizeLine_eq
  have most := c.most
  have two := c.two
  have hln : (gm.map spotD).length = gm.length := List.length_map _
  have hn1 : ((gm.map spotD).length : Int).toNat = gm.length := by rw [List.length_map]; omega
  refine seq_gen (fun δ G' => G' = G ∧ δ = [some (.scr ns), some (.ref p), some (.tup (gm.map spotD)), some (.int (gm.map spotD).length), some (winD gm w), some (rowsD gm w f), x6, some (.int kk), x8, some (.int gg), x10, x11, some (.int s.1), some (.int s.2.1), some (.tup (intsD' s.2.2)), x15, x16, x17, x18, x19, x20, x21, x22, x23, x24, x25]) (fun K hK => ?_) ?_
  · simp only [dVar, dC, dTup, dCons, dNil, dMat, dOp, dTest, dAnd, dOr, dNot, dAndV, dOrV, dNotV, dIf, dChain, asB, slot, wipe2, dSeq, dNext, dSet, dRet, dRetN, dDrop, dIfS, dBreak, dCont, dNever, dgName, dgNil, dgCons, dgTup, dAsg, dPar, dAug, dCall, dMeth, tyG, dIsi, isB, dLenQ, dTupQ, dAny, dAll, dMaxL, dLc, dDc, dMatD, dNil0, dYes, pdCopyG, plKeysG, dAugS, sSet, sPut, dSorSetT, dLenSet, oNo, oYes, dSlL, dSlT, dRepL, dIxL, dTpl, fE, qE, dLRng, dRevT, dNeg, iE, iL, iR1, iR2, iK, iEn, dFor, dLock, oAdd, oSub, oMul, oDiv, oMod, oLt, oLe, oGt, oGe, oEq, oNe, oIn, oNotIn, oIx, oIs, oIsNot, oI, SD.isNon, inB, ixB, ixC, eqB_int, eqB_bl, eqB_str, at_nat, atI_0, atI_1, atI_2, atI_3, atI_4, ixN_0, ixN_1, ixN_2, ixN_3, ixN_4, KeyC, lenB, SD.rLen, rInt, rMax2, mAppend, mExtend, mPop, mIndex, mIndexT, mUpdate, intsD, intsOf, bools, List.set_cons_zero, List.set_cons_succ, List.length_cons, List.length_nil, Bool.not_true, Bool.not_false, if_true, if_false, Bool.false_eq_true, true_and, and_true, Option.bind_some, List.getElem?_cons_succ, List.getElem?_cons_zero, decide_eq_true_eq, Bool.not_eq_true, gput_same, gput_gput, Option.map_some, ↓reduceIte, ite_true, String.reduceBEq, String.reduceEq, decide_true, decide_false, beq_self_eq_true, List.getElem?_map, hs, spotD]
    exact hK _ _ ⟨rfl, rfl⟩
  rintro δ G' ⟨rfl, rfl⟩
  exact t_12 hrt c hs hgg P

theorem t_10 {x6 x7 x8 x9 x10 x11 x12 x13 x14 x15 x16 x17 x18 x19 x20 x21 x22 x23 x24 x25 : Option D} (hrt : ∀ G, E.rt (.bl true) G) (c : Ctx gm w f) (P : PoolOk G p sc 100) : b_law_10 (WF T (k + 19)) E [some (.scr ns), some (.ref p), some (.tup (gm.map spotD)), some (.int (gm.map spotD).length), some (winD gm w), some (rowsD gm w f), x6, x7, x8, x9, x10, x11, x12, x13, x14, x15, x16, x17, x18, x19, x20, x21, x22, x23, x24, x25] G := by
  unfold b_law_10
  have hsl : sizeLine = 16777216 := sizeLine_eq
  have most := c.most
  have two := c.two
  have hln : (gm.map spotD).length = gm.length := List.length_map _
  have hn1 : ((gm.map spotD).length : Int).toNat = gm.length := by rw [List.length_map]; omega
  refine seq_i ?_
  simp only [dVar, dC, dTup, dCons, dNil, dMat, dOp, dTest, dAnd, dOr, dNot, dAndV, dOrV, dNotV, dIf, dChain, asB, slot, wipe2, dSeq, dNext, dSet, dRet, dRetN, dDrop, dIfS, dBreak, dCont, dNever, dgName, dgNil, dgCons, dgTup, dAsg, dPar, dAug, dCall, dMeth, tyG, dIsi, isB, dLenQ, dTupQ, dAny, dAll, dMaxL, dLc, dDc, dMatD, dNil0, dYes, pdCopyG, plKeysG, dAugS, sSet, sPut, dSorSetT, dLenSet, oNo, oYes, dSlL, dSlT, dRepL, dIxL, dTpl, fE, qE, dLRng, dRevT, dNeg, iE, iL, iR1, iR2, iK, iEn, dFor, dLock, oAdd, oSub, oMul, oDiv, oMod, oLt, oLe, oGt, oGe, oEq, oNe, oIn, oNotIn, oIx, oIs, oIsNot, oI, SD.isNon, inB, ixB, ixC, eqB_int, eqB_bl, eqB_str, at_nat, atI_0, atI_1, atI_2, atI_3, atI_4, ixN_0, ixN_1, ixN_2, ixN_3, ixN_4, KeyC, lenB, SD.rLen, rInt, rMax2, mAppend, mExtend, mPop, mIndex, mIndexT, mUpdate, intsD, intsOf, bools, List.set_cons_zero, List.set_cons_succ, List.length_cons, List.length_nil, Bool.not_true, Bool.not_false, if_true, if_false, Bool.false_eq_true, true_and, and_true, Option.bind_some, List.getElem?_cons_succ, List.getElem?_cons_zero, decide_eq_true_eq, Bool.not_eq_true, gput_same, gput_gput, Option.map_some, ↓reduceIte, ite_true, String.reduceBEq, String.reduceEq, decide_true, decide_false, beq_self_eq_true]
  refine w_draw P (by rw [bigN_eq]; omega) (by omega) (by omega) fun r G1 h0 h1 P1 hf1 => ?_
  obtain ⟨r, rfl⟩ : ∃ j : Nat, r = (j : Int) := ⟨r.toNat, by omega⟩
  refine w_draw P1 (by rw [bigN_eq]; omega) (by omega) (by omega) fun r2 G2 h2 h3 P2 hf2 => ?_
  obtain ⟨r2, rfl⟩ : ∃ j : Nat, r2 = (j : Int) := ⟨r2.toNat, by omega⟩
  have hr : r < gm.length := by omega
  exact t_11 hrt c (List.getElem?_eq_getElem hr) (by omega) P2

end
end K43

set_option Elab.async false
set_option linter.all false
set_option maxRecDepth 100000
set_option maxHeartbeats 4000000
namespace K43
open PySem PySem.Spec PyProof.Rows L2 SD
theorem eqB_lst {G : Gp} {a b : Addr} {l l' : Bool} {xs ys : List D} (h1 : G a = some (.lst l xs)) (h2 : G b = some (.lst l' ys)) (e1 : levs xs ≤ 59) (e2 : levs ys ≤ 59) : eqB G (.ref a) (.ref b) = some (decide (xs = ys)) := by
  unfold eqB
  simp only [h1, h2]
  rw [if_pos ⟨e1, e2⟩]
theorem filt_w (w : Nat → Nat) (q : Nat) : ∀ l : List Nat, ([] : List D) ++ (l.map fun (k : Nat) => D.int k).filterMap (fun d => match d with | .int i => if w i.toNat = q then some (.int i) else none | _ => none) = intsD' (l.filter fun k => decide (w k = q))
  | [] => rfl
  | x :: r => by
    have ih := filt_w w q r
    rw [List.nil_append] at ih ⊢
    rw [List.map_cons, List.filterMap_cons, List.filter_cons]
    simp only [Int.toNat_natCast]
    by_cases h : w x = q
    · rw [if_pos h, if_pos (by simpa using h), ih]; rfl
    · rw [if_neg h, if_neg (by simpa using h), ih]
theorem en_map {F : D → Option D} {g : Nat → D → D} (hF : ∀ (i : Nat) d, F (.tup [.int i, d]) = some (g i d)) : ∀ (xs : List D) (i : Nat), (enD i xs).filterMap F = (List.range xs.length).map fun j => g (i + j) (xs.getD j .non)
  | [], _ => rfl
  | d :: r, i => by
    show (D.tup [.int (i : Nat), d] :: enD (i + 1) r).filterMap F = _
    rw [List.filterMap_cons, hF, List.length_cons, List.range_succ_eq_map, List.map_cons, List.map_map, en_map hF r]
    refine congrArg (List.cons _) (List.map_congr_left fun j _ => ?_)
    show g (i + 1 + j) _ = g (i + (j + 1)) _
    rw [show i + 1 + j = i + (j + 1) by omega]
    rfl
theorem en_mem {xs : List D} {x : D} (h : x ∈ enD 0 xs) : ∃ j d, xs[j]? = some d ∧ x = .tup [.int (j : Nat), d] := by
  obtain ⟨j, hj⟩ := List.mem_iff_getElem?.mp h
  rw [enD_get] at hj
  obtain ⟨d, hd, rfl⟩ := Option.map_eq_some_iff.mp hj
  exact ⟨j, d, hd, by rw [Nat.zero_add]⟩
theorem rep_ints (n q : Nat) : (List.replicate n [D.int (q : Nat)]).flatten = intsD' ((List.range n).map fun _ => q) := by
  induction n with
  | zero => rfl
  | succ n ih =>
    rw [List.replicate_succ, List.flatten_cons, ih, List.range_succ_eq_map]
    simp [intsD', Function.comp_def]
theorem rep_non (n : Nat) : (List.replicate n [D.non]).flatten = (List.range n).map fun _ => D.non := by
  induction n with
  | zero => rfl
  | succ n ih =>
    rw [List.replicate_succ, List.flatten_cons, ih, List.range_succ_eq_map]
    simp [Function.comp_def]

def Goes (ns : List Int) (p sc : Addr) (gm : List Spot) (w f : Nat → Nat) (δ : St2) (G : Gp) : Prop := PoolOk G p sc 100 ∧ ∃ x6 x7 x8 x9 x10 x11 x12 x13 x14 x15 x16 x17 x18 x19 x20 x21 x22 x23 x24 x25, δ = [some (.scr ns), some (.ref p), some (.tup (gm.map spotD)), some (.int (gm.map spotD).length), some (winD gm w), some (rowsD gm w f), x6, x7, x8, x9, x10, x11, x12, x13, x14, x15, x16, x17, x18, x19, x20, x21, x22, x23, x24, x25]
structure Ls (gm : List Spot) (w : Nat → Nat) (q : Nat) (ls : List Nat) : Prop where
  q2 : q < 2
  mem : ∀ k, k ∈ ls ↔ k < gm.length ∧ w k = q
  le : ls.length ≤ gm.length
section
variable {k : Nat} {ns : List Int} {p sc sp : Addr} {gm : List Spot} {w f : Nat → Nat} {q : Nat} {ls : List Nat} {G : Gp} {E : En2}
theorem t_9 {x7 x9 x11 x12 x13 x14 x15 x16 x17 x18 x19 x20 x21 x22 x23 x24 x25 : Option D} {t : Addr} (c : Ctx gm w f) (m : Ls gm w q ls) (hS0 : G sp = some (.lst false (intsD' ls))) (hne : ls ≠ []) {td' : Nat → Option Nat} (hT : G t = some (.lst false ((List.range gm.length).map fun j => tdD (td' j))))
    (htd : ∀ j ∈ ls, td' j = none ∨ ((gmOf gm).own j = q ∧ td' j = some (f j))) (hnx : ∀ x11, E.nx [some (.scr ns), some (.ref p), some (.tup (gm.map spotD)), some (.int (gm.map spotD).length), some (winD gm w), some (rowsD gm w f), some (.int q), x7, some (.ref sp), x9, some (.ref t), x11, x12, x13, x14, x15, x16, x17, x18, x19, x20, x21, x22, x23, x24, x25] G) : b_law_9 (WF T (k + 19)) E [some (.scr ns), some (.ref p), some (.tup (gm.map spotD)), some (.int (gm.map spotD).length), some (winD gm w), some (rowsD gm w f), some (.int q), x7, some (.ref sp), x9, some (.ref t), x11, x12, x13, x14, x15, x16, x17, x18, x19, x20, x21, x22, x23, x24, x25] G := by
  unfold b_law_9
  have hsl : sizeLine = 16777216 := sizeLine_eq
  have most := c.most
  have lls := m.le
  obtain ⟨okp, lenp, f', certp⟩ := part_ok c.ok c.sol m.q2 m.mem m.le htd
  have hlq : 0 < ls.length := List.length_pos_iff.mpr hne
  have cq := c.sol.cert q m.q2
  refine seq_i ?_
  simp only [dVar, dC, dTup, dCons, dNil, dMat, dOp, dTest, dAnd, dOr, dNot, dAndV, dOrV, dNotV, dIf, dChain, asB, slot, wipe2, dSeq, dNext, dSet, dRet, dRetN, dDrop, dIfS, dBreak, dCont, dNever, dgName, dgNil, dgCons, dgTup, dAsg, dPar, dAug, dCall, dMeth, tyG, dIsi, isB, dLenQ, dTupQ, dAny, dAll, dMaxL, dLc, dDc, dMatD, dNil0, dYes, pdCopyG, plKeysG, dAugS, sSet, sPut, dSorSetT, dLenSet, oNo, oYes, dSlL, dSlT, dRepL, dIxL, dTpl, fE, qE, dLRng, dRevT, dNeg, iE, iL, iR1, iR2, iK, iEn, dFor, dLock, oAdd, oSub, oMul, oDiv, oMod, oLt, oLe, oGt, oGe, oEq, oNe, oIn, oNotIn, oIx, oIs, oIsNot, oI, SD.isNon, inB, ixB, ixC, eqB_int, eqB_bl, eqB_str, at_nat, atI_0, atI_1, atI_2, atI_3, atI_4, ixN_0, ixN_1, ixN_2, ixN_3, ixN_4, KeyC, lenB, SD.rLen, rInt, rMax2, mAppend, mExtend, mPop, mIndex, mIndexT, mUpdate, intsD, intsOf, bools, List.set_cons_zero, List.set_cons_succ, List.length_cons, List.length_nil, Bool.not_true, Bool.not_false, if_true, if_false, Bool.false_eq_true, true_and, and_true, Option.bind_some, List.getElem?_cons_succ, List.getElem?_cons_zero, decide_eq_true_eq, Bool.not_eq_true, gput_same, gput_gput, Option.map_some, ↓reduceIte, ite_true, String.reduceBEq, String.reduceEq, decide_true, decide_false, beq_self_eq_true]
  refine w_partd c.ok (sp := sp) (tl := t) (ls := ls) (td := td') (fun j hj => ((m.mem j).mp hj).1) (by omega) (fun j hj i hi => ?_) hS0 hT ?_
  · rcases htd j hj with z | ⟨ho, z⟩
    · rw [z] at hi; cases hi
    · rw [z] at hi; cases hi
      exact (m.mem _).mpr (cq.mine j ((m.mem j).mp hj) ho).2
  refine w_game okp (by omega) ?_
  simp only [dVar, dC, dTup, dCons, dNil, dMat, dOp, dTest, dAnd, dOr, dNot, dAndV, dOrV, dNotV, dIf, dChain, asB, slot, wipe2, dSeq, dNext, dSet, dRet, dRetN, dDrop, dIfS, dBreak, dCont, dNever, dgName, dgNil, dgCons, dgTup, dAsg, dPar, dAug, dCall, dMeth, tyG, dIsi, isB, dLenQ, dTupQ, dAny, dAll, dMaxL, dLc, dDc, dMatD, dNil0, dYes, pdCopyG, plKeysG, dAugS, sSet, sPut, dSorSetT, dLenSet, oNo, oYes, dSlL, dSlT, dRepL, dIxL, dTpl, fE, qE, dLRng, dRevT, dNeg, iE, iL, iR1, iR2, iK, iEn, dFor, dLock, oAdd, oSub, oMul, oDiv, oMod, oLt, oLe, oGt, oGe, oEq, oNe, oIn, oNotIn, oIx, oIs, oIsNot, oI, SD.isNon, inB, ixB, ixC, eqB_int, eqB_bl, eqB_str, at_nat, atI_0, atI_1, atI_2, atI_3, atI_4, ixN_0, ixN_1, ixN_2, ixN_3, ixN_4, KeyC, lenB, SD.rLen, rInt, rMax2, mAppend, mExtend, mPop, mIndex, mIndexT, mUpdate, intsD, intsOf, bools, List.set_cons_zero, List.set_cons_succ, List.length_cons, List.length_nil, Bool.not_true, Bool.not_false, if_true, if_false, Bool.false_eq_true, true_and, and_true, Option.bind_some, List.getElem?_cons_succ, List.getElem?_cons_zero, decide_eq_true_eq, Bool.not_eq_true, gput_same, gput_gput, Option.map_some, ↓reduceIte, ite_true, String.reduceBEq, String.reduceEq, decide_true, decide_false, beq_self_eq_true]
  refine w_solved (L := 5) okp (fun s hs => ?_) (by omega) fun w2 f2 sol2 => ?_
  · obtain ⟨j, hj, rfl⟩ := List.mem_map.mp hs
    obtain ⟨s, hsj, _, hlv', _⟩ := gm_at ((m.mem j).mp hj).1
    show (gmOf gm).lv j < 5
    rw [hlv']; exact c.lv s (List.mem_of_getElem? hsj)
  have hall := sol2.keeps okp m.q2 certp
  have ew : (List.range (partG gm ls td').length).map w2 = (List.range ls.length).map fun _ => q := by
    rw [lenp]
    exact List.map_congr_left fun j hj => hall j (by rw [lenp]; exact List.mem_range.mp hj)
  have ell := ints_len ls
  have h1 := hnx (some (gameD (partG gm ls td')))
  unfold winD
  rw [ew]
  simp only [dVar, dC, dTup, dCons, dNil, dMat, dOp, dTest, dAnd, dOr, dNot, dAndV, dOrV, dNotV, dIf, dChain, asB, slot, wipe2, dSeq, dNext, dSet, dRet, dRetN, dDrop, dIfS, dBreak, dCont, dNever, dgName, dgNil, dgCons, dgTup, dAsg, dPar, dAug, dCall, dMeth, tyG, dIsi, isB, dLenQ, dTupQ, dAny, dAll, dMaxL, dLc, dDc, dMatD, dNil0, dYes, pdCopyG, plKeysG, dAugS, sSet, sPut, dSorSetT, dLenSet, oNo, oYes, dSlL, dSlT, dRepL, dIxL, dTpl, fE, qE, dLRng, dRevT, dNeg, iE, iL, iR1, iR2, iK, iEn, dFor, dLock, oAdd, oSub, oMul, oDiv, oMod, oLt, oLe, oGt, oGe, oEq, oNe, oIn, oNotIn, oIx, oIs, oIsNot, oI, SD.isNon, inB, ixB, ixC, eqB_int, eqB_bl, eqB_str, at_nat, atI_0, atI_1, atI_2, atI_3, atI_4, ixN_0, ixN_1, ixN_2, ixN_3, ixN_4, KeyC, lenB, SD.rLen, rInt, rMax2, mAppend, mExtend, mPop, mIndex, mIndexT, mUpdate, intsD, intsOf, bools, List.set_cons_zero, List.set_cons_succ, List.length_cons, List.length_nil, Bool.not_true, Bool.not_false, if_true, if_false, Bool.false_eq_true, true_and, and_true, Option.bind_some, List.getElem?_cons_succ, List.getElem?_cons_zero, decide_eq_true_eq, Bool.not_eq_true, gput_same, gput_gput, Option.map_some, ↓reduceIte, ite_true, String.reduceBEq, String.reduceEq, decide_true, decide_false, beq_self_eq_true, hS0]
  have en : (((intsD' ls).length : Nat) : Int).toNat = ls.length := by rw [ell]; omega
  refine ⟨by simp, by omega, by omega, by omega, ?_⟩
  rw [en, rep_ints, eqB_ints]
  simp only [dVar, dC, dTup, dCons, dNil, dMat, dOp, dTest, dAnd, dOr, dNot, dAndV, dOrV, dNotV, dIf, dChain, asB, slot, wipe2, dSeq, dNext, dSet, dRet, dRetN, dDrop, dIfS, dBreak, dCont, dNever, dgName, dgNil, dgCons, dgTup, dAsg, dPar, dAug, dCall, dMeth, tyG, dIsi, isB, dLenQ, dTupQ, dAny, dAll, dMaxL, dLc, dDc, dMatD, dNil0, dYes, pdCopyG, plKeysG, dAugS, sSet, sPut, dSorSetT, dLenSet, oNo, oYes, dSlL, dSlT, dRepL, dIxL, dTpl, fE, qE, dLRng, dRevT, dNeg, iE, iL, iR1, iR2, iK, iEn, dFor, dLock, oAdd, oSub, oMul, oDiv, oMod, oLt, oLe, oGt, oGe, oEq, oNe, oIn, oNotIn, oIx, oIs, oIsNot, oI, SD.isNon, inB, ixB, ixC, eqB_int, eqB_bl, eqB_str, at_nat, atI_0, atI_1, atI_2, atI_3, atI_4, ixN_0, ixN_1, ixN_2, ixN_3, ixN_4, KeyC, lenB, SD.rLen, rInt, rMax2, mAppend, mExtend, mPop, mIndex, mIndexT, mUpdate, intsD, intsOf, bools, List.set_cons_zero, List.set_cons_succ, List.length_cons, List.length_nil, Bool.not_true, Bool.not_false, if_true, if_false, Bool.false_eq_true, true_and, and_true, Option.bind_some, List.getElem?_cons_succ, List.getElem?_cons_zero, decide_eq_true_eq, Bool.not_eq_true, gput_same, gput_gput, Option.map_some, ↓reduceIte, ite_true, String.reduceBEq, String.reduceEq, decide_true, decide_false, beq_self_eq_true]
  exact h1
theorem t_8 {x7 x9 x10 x11 x12 x13 x14 x15 x16 x17 x18 x19 x20 x21 x22 x23 x24 x25 : Option D} (c : Ctx gm w f) (m : Ls gm w q ls) (P : PoolOk G p sc 100) (hS : G sp = some (.lst false (intsD' ls))) (hne : ls ≠ []) (hnx : ∀ δ G', Goes ns p sc gm w f δ G' → E.nx δ G') : b_law_8 (WF T (k + 19)) E [some (.scr ns), some (.ref p), some (.tup (gm.map spotD)), some (.int (gm.map spotD).length), some (winD gm w), some (rowsD gm w f), some (.int q), x7, some (.ref sp), x9, x10, x11, x12, x13, x14, x15, x16, x17, x18, x19, x20, x21, x22, x23, x24, x25] G := by
  unfold b_law_8
  have hsl : sizeLine = 16777216 := sizeLine_eq
  have most := c.most
  have two := c.two
  have lls := m.le
  have cq := c.sol.cert q m.q2
  have hn1 : ((gm.map spotD).length : Int).toNat = gm.length := by rw [List.length_map]; omega
  have hln : (gm.map spotD).length = gm.length := List.length_map _
  have wat : ∀ j, j < gm.length → (intsD' ((List.range gm.length).map w))[j]? = some (.int (w j)) := fun j hj => by simp [intsD', hj]
  have rat : ∀ j, j < gm.length → ((List.range gm.length).map (rowD gm w f))[j]? = some (rowD gm w f j) := fun j hj => by simp [hj]
  have h1 : ∀ G' x6 x7 x8 x9 x10 x11 x12 x13 x14 x15 x16 x17 x18 x19 x20 x21 x22 x23 x24 x25, PoolOk G' p sc 100 → E.nx [some (.scr ns), some (.ref p), some (.tup (gm.map spotD)), some (.int (gm.map spotD).length), some (winD gm w), some (rowsD gm w f), x6, x7, x8, x9, x10, x11, x12, x13, x14, x15, x16, x17, x18, x19, x20, x21, x22, x23, x24, x25] G' := fun G' x6 x7 x8 x9 x10 x11 x12 x13 x14 x15 x16 x17 x18 x19 x20 x21 x22 x23 x24 x25 h => hnx _ _ ⟨h, x6, x7, x8, x9, x10, x11, x12, x13, x14, x15, x16, x17, x18, x19, x20, x21, x22, x23, x24, x25, rfl⟩
  clear hnx
  unfold winD rowsD at h1 ⊢
  simp only [dVar, dC, dTup, dCons, dNil, dMat, dOp, dTest, dAnd, dOr, dNot, dAndV, dOrV, dNotV, dIf, dChain, asB, slot, wipe2, dSeq, dNext, dSet, dRet, dRetN, dDrop, dIfS, dBreak, dCont, dNever, dgName, dgNil, dgCons, dgTup, dAsg, dPar, dAug, dCall, dMeth, tyG, dIsi, isB, dLenQ, dTupQ, dAny, dAll, dMaxL, dLc, dDc, dMatD, dNil0, dYes, pdCopyG, plKeysG, dAugS, sSet, sPut, dSorSetT, dLenSet, oNo, oYes, dSlL, dSlT, dRepL, dIxL, dTpl, fE, qE, dLRng, dRevT, dNeg, iE, iL, iR1, iR2, iK, iEn, dFor, dLock, oAdd, oSub, oMul, oDiv, oMod, oLt, oLe, oGt, oGe, oEq, oNe, oIn, oNotIn, oIx, oIs, oIsNot, oI, SD.isNon, inB, ixB, ixC, eqB_int, eqB_bl, eqB_str, at_nat, atI_0, atI_1, atI_2, atI_3, atI_4, ixN_0, ixN_1, ixN_2, ixN_3, ixN_4, KeyC, lenB, SD.rLen, rInt, rMax2, mAppend, mExtend, mPop, mIndex, mIndexT, mUpdate, intsD, intsOf, bools, List.set_cons_zero, List.set_cons_succ, List.length_cons, List.length_nil, Bool.not_true, Bool.not_false, if_true, if_false, Bool.false_eq_true, true_and, and_true, Option.bind_some, List.getElem?_cons_succ, List.getElem?_cons_zero, decide_eq_true_eq, Bool.not_eq_true, gput_same, gput_gput, Option.map_some, ↓reduceIte, ite_true, String.reduceBEq, String.reduceEq, decide_true, decide_false, beq_self_eq_true]
  rw [hn1]
  refine ⟨by omega, by omega, by omega, fun t1 ht1 => ⟨by rw [enD_len]; simp; omega, ?_⟩⟩

  refine lc_pure (fun d => match d with | .tup [.int i, x] => some (if w i.toNat = q then x else .non) | _ => none) trivial _ [] (fun x hx R1 R0 r => ?_) ?_
  · obtain ⟨j, d, hd, rfl⟩ := en_mem hx
    have hj : j < gm.length := by have := (List.getElem?_eq_some_iff.mp hd).1; simpa using this
    simp only [dVar, dC, dTup, dCons, dNil, dMat, dOp, dTest, dAnd, dOr, dNot, dAndV, dOrV, dNotV, dIf, dChain, asB, slot, wipe2, dSeq, dNext, dSet, dRet, dRetN, dDrop, dIfS, dBreak, dCont, dNever, dgName, dgNil, dgCons, dgTup, dAsg, dPar, dAug, dCall, dMeth, tyG, dIsi, isB, dLenQ, dTupQ, dAny, dAll, dMaxL, dLc, dDc, dMatD, dNil0, dYes, pdCopyG, plKeysG, dAugS, sSet, sPut, dSorSetT, dLenSet, oNo, oYes, dSlL, dSlT, dRepL, dIxL, dTpl, fE, qE, dLRng, dRevT, dNeg, iE, iL, iR1, iR2, iK, iEn, dFor, dLock, oAdd, oSub, oMul, oDiv, oMod, oLt, oLe, oGt, oGe, oEq, oNe, oIn, oNotIn, oIx, oIs, oIsNot, oI, SD.isNon, inB, ixB, ixC, eqB_int, eqB_bl, eqB_str, at_nat, atI_0, atI_1, atI_2, atI_3, atI_4, ixN_0, ixN_1, ixN_2, ixN_3, ixN_4, KeyC, lenB, SD.rLen, rInt, rMax2, mAppend, mExtend, mPop, mIndex, mIndexT, mUpdate, intsD, intsOf, bools, List.set_cons_zero, List.set_cons_succ, List.length_cons, List.length_nil, Bool.not_true, Bool.not_false, if_true, if_false, Bool.false_eq_true, true_and, and_true, Option.bind_some, List.getElem?_cons_succ, List.getElem?_cons_zero, decide_eq_true_eq, Bool.not_eq_true, gput_same, gput_gput, Option.map_some, ↓reduceIte, ite_true, String.reduceBEq, String.reduceEq, decide_true, decide_false, beq_self_eq_true, wat j hj]
    simp only [Int.toNat_natCast] at r
    by_cases h : w j = q
    · rw [if_pos h] at r
      rw [if_pos (by rw [h])]; exact r
    · rw [if_neg h] at r
      rw [if_neg (by omega)]; exact r
  let td : Nat → Option Nat := fun j => if w j = q then (if (gmOf gm).own j = w j then some (f j) else none) else none
  have etd : ([] : List D) ++ (enD 0 ((List.range gm.length).map (rowD gm w f))).filterMap (fun d => match d with | .tup [.int i, x] => some (if w i.toNat = q then x else .non) | _ => none) = (List.range gm.length).map fun j => tdD (td j) := by
    rw [List.nil_append, en_map (g := fun i x => if w i = q then x else .non) (fun i d => by simp only [Int.toNat_natCast])]
    rw [List.length_map, List.length_range]
    refine List.map_congr_left fun j hj => ?_
    have hj' := List.mem_range.mp hj
    rw [Nat.zero_add, List.getD_eq_getElem?_getD, rat j hj']
    show (if w j = q then rowD gm w f j else D.non) = tdD (if w j = q then (if (gmOf gm).own j = w j then some (f j) else none) else none)
    unfold rowD
    by_cases h1 : w j = q
    · by_cases h2 : (gmOf gm).own j = w j
      · rw [if_pos h1, if_pos h1, if_pos h2, if_pos h2]; rfl
      · rw [if_pos h1, if_pos h1, if_neg h2, if_neg h2]; rfl
    · rw [if_neg h1, if_neg h1]; rfl
  rw [etd]
  intro t2 ht2
  have n12 : t1 ≠ t2 := fun z => by rw [← z, gput_same] at ht2; cases ht2
  rw [rep_non] at ht2 ⊢
  have a2 : ∀ {b : Addr} {m : MO}, G b = some m → b ≠ t1 ∧ b ≠ t2 := fun {b m} e => by
    have b3 : b ≠ t1 := fun z => by subst z; rw [e] at ht1; cases ht1
    exact ⟨b3, fun z => by subst z; rw [gput_ne b3, e] at ht2; cases ht2⟩
  obtain ⟨G0, hG0⟩ : ∃ G0, G0 = gput (gput G t1 (.lst false ((List.range gm.length).map fun _ => D.non))) t2 (.lst false ((List.range gm.length).map fun j => tdD (td j))) := ⟨_, rfl⟩
  rw [← hG0]
  have old : ∀ {b : Addr} {m : MO}, G b = some m → G0 b = some m := fun {b m} e => by
    obtain ⟨b3, b4⟩ := a2 e
    rw [hG0, gput_ne b4, gput_ne b3]; exact e
  obtain ⟨_, ⟨mp, hmp⟩, ⟨msc, hmsc⟩⟩ := P.ne
  have PG0 : PoolOk G0 p sc 100 := P.of (Nat.le_refl _) ((old hmp).trans hmp.symm) ((old hmsc).trans hmsc.symm)
  have hS0 := old hS
  have hT1 : G0 t1 = some (.lst false ((List.range gm.length).map fun _ => tdD none)) := by rw [hG0, gput_ne n12, gput_same]; rfl
  have hT2 : G0 t2 = some (.lst false ((List.range gm.length).map fun j => tdD (td j))) := by rw [hG0, gput_same]
  refine for_inv (ds := [D.ref t1, D.ref t2]) (fun pre δ G' => G' = G0 ∧ ∃ x7 x9 x10 x11 x12 x13 x14 x15 x16 x17 x18 x19 x20 x21 x22 x23 x24 x25, δ = [some (.scr ns), some (.ref p), some (.tup (gm.map spotD)), some (.int (gm.map spotD).length), some (winD gm w), some (rowsD gm w f), some (.int q), x7, some (.ref sp), x9, x10, x11, x12, x13, x14, x15, x16, x17, x18, x19, x20, x21, x22, x23, x24, x25]) ?_ ?_ _ [] _ _ rfl
    ⟨rfl, _, _, _, _, _, _, _, _, _, _, _, _, _, _, _, _, _, _, rfl⟩
  · rintro pre x post δ G' e ⟨rfl, x7, x9, x10, x11, x12, x13, x14, x15, x16, x17, x18, x19, x20, x21, x22, x23, x24, x25, rfl⟩
    refine ⟨trivial, fun nx2 hx2 => ?_⟩
    obtain ⟨t, td', rfl, hT, htd⟩ : ∃ (t : Addr) (td' : Nat → Option Nat), x = .ref t ∧ G' t = some (.lst false ((List.range gm.length).map fun j => tdD (td' j))) ∧ ∀ j ∈ ls, td' j = none ∨ ((gmOf gm).own j = q ∧ td' j = some (f j)) := by
      have hx : x ∈ [D.ref t1, D.ref t2] := by rw [e]; simp
      rcases List.mem_cons.mp hx with rfl | hx
      · exact ⟨t1, fun _ => none, rfl, hT1, fun _ _ => .inl rfl⟩
      · obtain rfl := List.mem_singleton.mp hx
        refine ⟨t2, td, rfl, hT2, fun j hj => ?_⟩
        have hw := ((m.mem j).mp hj).2
        show (if w j = q then (if (gmOf gm).own j = w j then some (f j) else none) else none) = none ∨ _
        rw [if_pos hw]
        by_cases ho : (gmOf gm).own j = w j
        · exact .inr ⟨by omega, by show (if w j = q then (if (gmOf gm).own j = w j then some (f j) else none) else none) = _; rw [if_pos hw, if_pos ho]⟩
        · rw [if_neg ho]; exact .inl rfl
    exact t_9 (k := k) (p := p) c m hS0 hne hT htd fun x11 => hx2 _ _ ⟨rfl, _, _, _, _, _, _, _, _, _, _, _, _, _, _, _, _, _, _, rfl⟩
  · rintro δ G' ⟨rfl, x7, x9, x10, x11, x12, x13, x14, x15, x16, x17, x18, x19, x20, x21, x22, x23, x24, x25, rfl⟩
    exact ⟨trivial, h1 _ _ _ _ _ _ _ _ _ _ _ _ _ _ _ _ _ _ _ _ _ PG0⟩

theorem t_7 {x7 x9 x10 x11 x12 x13 x14 x15 x16 x17 x18 x19 x20 x21 x22 x23 x24 x25 : Option D} (c : Ctx gm w f) (m : Ls gm w q ls) (P : PoolOk G p sc 100) (hS : G sp = some (.lst false (intsD' ls))) (hnx : ∀ δ G', Goes ns p sc gm w f δ G' → E.nx δ G') : b_law_7 (WF T (k + 19)) E [some (.scr ns), some (.ref p), some (.tup (gm.map spotD)), some (.int (gm.map spotD).length), some (winD gm w), some (rowsD gm w f), some (.int q), x7, some (.ref sp), x9, x10, x11, x12, x13, x14, x15, x16, x17, x18, x19, x20, x21, x22, x23, x24, x25] G := by
  unfold b_law_7
  have hsl : sizeLine = 16777216 := sizeLine_eq
  have most := c.most
  have two := c.two
  have lls := m.le
  have cq := c.sol.cert q m.q2
  have hil := ints_len ls
  have lvl : ∀ (x : Nat) (es : List Nat), lev (D.int (x : Nat)) ≤ 60 ∧ levs (intsD' es) ≤ 59 := fun x es => ⟨by simp [lev], by rw [levs_ints]; decide⟩
  refine seq_gen (fun δ G' => G' = G ∧ δ = [some (.scr ns), some (.ref p), some (.tup (gm.map spotD)), some (.int (gm.map spotD).length), some (winD gm w), some (rowsD gm w f), some (.int q), x7, some (.ref sp), x9, x10, x11, x12, x13, x14, x15, x16, x17, x18, x19, x20, x21, x22, x23, x24, x25]) (fun K hK => ?_) ?_
  · refine if_i ?_
    simp only [dVar, dC, dTup, dCons, dNil, dMat, dOp, dTest, dAnd, dOr, dNot, dAndV, dOrV, dNotV, dIf, dChain, asB, slot, wipe2, dSeq, dNext, dSet, dRet, dRetN, dDrop, dIfS, dBreak, dCont, dNever, dgName, dgNil, dgCons, dgTup, dAsg, dPar, dAug, dCall, dMeth, tyG, dIsi, isB, dLenQ, dTupQ, dAny, dAll, dMaxL, dLc, dDc, dMatD, dNil0, dYes, pdCopyG, plKeysG, dAugS, sSet, sPut, dSorSetT, dLenSet, oNo, oYes, dSlL, dSlT, dRepL, dIxL, dTpl, fE, qE, dLRng, dRevT, dNeg, iE, iL, iR1, iR2, iK, iEn, dFor, dLock, oAdd, oSub, oMul, oDiv, oMod, oLt, oLe, oGt, oGe, oEq, oNe, oIn, oNotIn, oIx, oIs, oIsNot, oI, SD.isNon, inB, ixB, ixC, eqB_int, eqB_bl, eqB_str, at_nat, atI_0, atI_1, atI_2, atI_3, atI_4, ixN_0, ixN_1, ixN_2, ixN_3, ixN_4, KeyC, lenB, SD.rLen, rInt, rMax2, mAppend, mExtend, mPop, mIndex, mIndexT, mUpdate, intsD, intsOf, bools, List.set_cons_zero, List.set_cons_succ, List.length_cons, List.length_nil, Bool.not_true, Bool.not_false, if_true, if_false, Bool.false_eq_true, true_and, and_true, Option.bind_some, List.getElem?_cons_succ, List.getElem?_cons_zero, decide_eq_true_eq, Bool.not_eq_true, gput_same, gput_gput, Option.map_some, ↓reduceIte, ite_true, String.reduceBEq, String.reduceEq, decide_true, decide_false, beq_self_eq_true, hS]
    refine ⟨by omega, lc_nothing hS ls (fun j hj R1 R0 r => ?_) ?_⟩
    · obtain ⟨hjn, hwj⟩ := (m.mem j).mp hj
      obtain ⟨s, hsj, hown, hlv, hE⟩ := gm_at hjn
      have few := c.ok.few _ _ hsj
      simp only [dVar, dC, dTup, dCons, dNil, dMat, dOp, dTest, dAnd, dOr, dNot, dAndV, dOrV, dNotV, dIf, dChain, asB, slot, wipe2, dSeq, dNext, dSet, dRet, dRetN, dDrop, dIfS, dBreak, dCont, dNever, dgName, dgNil, dgCons, dgTup, dAsg, dPar, dAug, dCall, dMeth, tyG, dIsi, isB, dLenQ, dTupQ, dAny, dAll, dMaxL, dLc, dDc, dMatD, dNil0, dYes, pdCopyG, plKeysG, dAugS, sSet, sPut, dSorSetT, dLenSet, oNo, oYes, dSlL, dSlT, dRepL, dIxL, dTpl, fE, qE, dLRng, dRevT, dNeg, iE, iL, iR1, iR2, iK, iEn, dFor, dLock, oAdd, oSub, oMul, oDiv, oMod, oLt, oLe, oGt, oGe, oEq, oNe, oIn, oNotIn, oIx, oIs, oIsNot, oI, SD.isNon, inB, ixB, ixC, eqB_int, eqB_bl, eqB_str, at_nat, atI_0, atI_1, atI_2, atI_3, atI_4, ixN_0, ixN_1, ixN_2, ixN_3, ixN_4, KeyC, lenB, SD.rLen, rInt, rMax2, mAppend, mExtend, mPop, mIndex, mIndexT, mUpdate, intsD, intsOf, bools, List.set_cons_zero, List.set_cons_succ, List.length_cons, List.length_nil, Bool.not_true, Bool.not_false, if_true, if_false, Bool.false_eq_true, true_and, and_true, Option.bind_some, List.getElem?_cons_succ, List.getElem?_cons_zero, decide_eq_true_eq, Bool.not_eq_true, gput_same, gput_gput, Option.map_some, ↓reduceIte, ite_true, String.reduceBEq, String.reduceEq, decide_true, decide_false, beq_self_eq_true, List.getElem?_map, hsj, spotD]
      by_cases ho : ((s.1 : Int) = (q : Int))
      · rw [decide_eq_true ho]
        simp only [Bool.not_true, Bool.false_eq_true, if_false]
        exact r
      · rw [decide_eq_false ho]
        simp only [Bool.not_false, if_true]
        refine ⟨by rw [ints_len]; omega, lc_nothing trivial s.2.2 (fun g hg R1' R0' r' => ?_) ?_⟩
        · have hgl := cq.his j ⟨hjn, hwj⟩ (by rw [hown]; omega) g (by rw [hE]; exact hg) (c.ok.in_ _ _ hsj g hg)
          simp only [dVar, dC, dTup, dCons, dNil, dMat, dOp, dTest, dAnd, dOr, dNot, dAndV, dOrV, dNotV, dIf, dChain, asB, slot, wipe2, dSeq, dNext, dSet, dRet, dRetN, dDrop, dIfS, dBreak, dCont, dNever, dgName, dgNil, dgCons, dgTup, dAsg, dPar, dAug, dCall, dMeth, tyG, dIsi, isB, dLenQ, dTupQ, dAny, dAll, dMaxL, dLc, dDc, dMatD, dNil0, dYes, pdCopyG, plKeysG, dAugS, sSet, sPut, dSorSetT, dLenSet, oNo, oYes, dSlL, dSlT, dRepL, dIxL, dTpl, fE, qE, dLRng, dRevT, dNeg, iE, iL, iR1, iR2, iK, iEn, dFor, dLock, oAdd, oSub, oMul, oDiv, oMod, oLt, oLe, oGt, oGe, oEq, oNe, oIn, oNotIn, oIx, oIs, oIsNot, oI, SD.isNon, inB, ixB, ixC, eqB_int, eqB_bl, eqB_str, at_nat, atI_0, atI_1, atI_2, atI_3, atI_4, ixN_0, ixN_1, ixN_2, ixN_3, ixN_4, KeyC, lenB, SD.rLen, rInt, rMax2, mAppend, mExtend, mPop, mIndex, mIndexT, mUpdate, intsD, intsOf, bools, List.set_cons_zero, List.set_cons_succ, List.length_cons, List.length_nil, Bool.not_true, Bool.not_false, if_true, if_false, Bool.false_eq_true, true_and, and_true, Option.bind_some, List.getElem?_cons_succ, List.getElem?_cons_zero, decide_eq_true_eq, Bool.not_eq_true, gput_same, gput_gput, Option.map_some, ↓reduceIte, ite_true, String.reduceBEq, String.reduceEq, decide_true, decide_false, beq_self_eq_true, hS]
          rw [if_pos (lvl _ _)]
          simp only [dVar, dC, dTup, dCons, dNil, dMat, dOp, dTest, dAnd, dOr, dNot, dAndV, dOrV, dNotV, dIf, dChain, asB, slot, wipe2, dSeq, dNext, dSet, dRet, dRetN, dDrop, dIfS, dBreak, dCont, dNever, dgName, dgNil, dgCons, dgTup, dAsg, dPar, dAug, dCall, dMeth, tyG, dIsi, isB, dLenQ, dTupQ, dAny, dAll, dMaxL, dLc, dDc, dMatD, dNil0, dYes, pdCopyG, plKeysG, dAugS, sSet, sPut, dSorSetT, dLenSet, oNo, oYes, dSlL, dSlT, dRepL, dIxL, dTpl, fE, qE, dLRng, dRevT, dNeg, iE, iL, iR1, iR2, iK, iEn, dFor, dLock, oAdd, oSub, oMul, oDiv, oMod, oLt, oLe, oGt, oGe, oEq, oNe, oIn, oNotIn, oIx, oIs, oIsNot, oI, SD.isNon, inB, ixB, ixC, eqB_int, eqB_bl, eqB_str, at_nat, atI_0, atI_1, atI_2, atI_3, atI_4, ixN_0, ixN_1, ixN_2, ixN_3, ixN_4, KeyC, lenB, SD.rLen, rInt, rMax2, mAppend, mExtend, mPop, mIndex, mIndexT, mUpdate, intsD, intsOf, bools, List.set_cons_zero, List.set_cons_succ, List.length_cons, List.length_nil, Bool.not_true, Bool.not_false, if_true, if_false, Bool.false_eq_true, true_and, and_true, Option.bind_some, List.getElem?_cons_succ, List.getElem?_cons_zero, decide_eq_true_eq, Bool.not_eq_true, gput_same, gput_gput, Option.map_some, ↓reduceIte, ite_true, String.reduceBEq, String.reduceEq, decide_true, decide_false, beq_self_eq_true, decide_eq_true (mem_ints.mpr ((m.mem _).mpr hgl))]
          exact r'
        · simp only [dVar, dC, dTup, dCons, dNil, dMat, dOp, dTest, dAnd, dOr, dNot, dAndV, dOrV, dNotV, dIf, dChain, asB, slot, wipe2, dSeq, dNext, dSet, dRet, dRetN, dDrop, dIfS, dBreak, dCont, dNever, dgName, dgNil, dgCons, dgTup, dAsg, dPar, dAug, dCall, dMeth, tyG, dIsi, isB, dLenQ, dTupQ, dAny, dAll, dMaxL, dLc, dDc, dMatD, dNil0, dYes, pdCopyG, plKeysG, dAugS, sSet, sPut, dSorSetT, dLenSet, oNo, oYes, dSlL, dSlT, dRepL, dIxL, dTpl, fE, qE, dLRng, dRevT, dNeg, iE, iL, iR1, iR2, iK, iEn, dFor, dLock, oAdd, oSub, oMul, oDiv, oMod, oLt, oLe, oGt, oGe, oEq, oNe, oIn, oNotIn, oIx, oIs, oIsNot, oI, SD.isNon, inB, ixB, ixC, eqB_int, eqB_bl, eqB_str, at_nat, atI_0, atI_1, atI_2, atI_3, atI_4, ixN_0, ixN_1, ixN_2, ixN_3, ixN_4, KeyC, lenB, SD.rLen, rInt, rMax2, mAppend, mExtend, mPop, mIndex, mIndexT, mUpdate, intsD, intsOf, bools, List.set_cons_zero, List.set_cons_succ, List.length_cons, List.length_nil, Bool.not_true, Bool.not_false, if_true, if_false, Bool.false_eq_true, true_and, and_true, Option.bind_some, List.getElem?_cons_succ, List.getElem?_cons_zero, decide_eq_true_eq, Bool.not_eq_true, gput_same, gput_gput, Option.map_some, ↓reduceIte, ite_true, String.reduceBEq, String.reduceEq, decide_true, decide_false, beq_self_eq_true]
          rw [if_neg (by decide)]
          exact r
    · simp only [dVar, dC, dTup, dCons, dNil, dMat, dOp, dTest, dAnd, dOr, dNot, dAndV, dOrV, dNotV, dIf, dChain, asB, slot, wipe2, dSeq, dNext, dSet, dRet, dRetN, dDrop, dIfS, dBreak, dCont, dNever, dgName, dgNil, dgCons, dgTup, dAsg, dPar, dAug, dCall, dMeth, tyG, dIsi, isB, dLenQ, dTupQ, dAny, dAll, dMaxL, dLc, dDc, dMatD, dNil0, dYes, pdCopyG, plKeysG, dAugS, sSet, sPut, dSorSetT, dLenSet, oNo, oYes, dSlL, dSlT, dRepL, dIxL, dTpl, fE, qE, dLRng, dRevT, dNeg, iE, iL, iR1, iR2, iK, iEn, dFor, dLock, oAdd, oSub, oMul, oDiv, oMod, oLt, oLe, oGt, oGe, oEq, oNe, oIn, oNotIn, oIx, oIs, oIsNot, oI, SD.isNon, inB, ixB, ixC, eqB_int, eqB_bl, eqB_str, at_nat, atI_0, atI_1, atI_2, atI_3, atI_4, ixN_0, ixN_1, ixN_2, ixN_3, ixN_4, KeyC, lenB, SD.rLen, rInt, rMax2, mAppend, mExtend, mPop, mIndex, mIndexT, mUpdate, intsD, intsOf, bools, List.set_cons_zero, List.set_cons_succ, List.length_cons, List.length_nil, Bool.not_true, Bool.not_false, if_true, if_false, Bool.false_eq_true, true_and, and_true, Option.bind_some, List.getElem?_cons_succ, List.getElem?_cons_zero, decide_eq_true_eq, Bool.not_eq_true, gput_same, gput_gput, Option.map_some, ↓reduceIte, ite_true, String.reduceBEq, String.reduceEq, decide_true, decide_false, beq_self_eq_true]
      rw [if_neg (by decide)]
      exact hK _ _ ⟨rfl, rfl⟩
  rintro δ G' ⟨rfl, rfl⟩
  refine if_i ?_
  simp only [dVar, dC, dTup, dCons, dNil, dMat, dOp, dTest, dAnd, dOr, dNot, dAndV, dOrV, dNotV, dIf, dChain, asB, slot, wipe2, dSeq, dNext, dSet, dRet, dRetN, dDrop, dIfS, dBreak, dCont, dNever, dgName, dgNil, dgCons, dgTup, dAsg, dPar, dAug, dCall, dMeth, tyG, dIsi, isB, dLenQ, dTupQ, dAny, dAll, dMaxL, dLc, dDc, dMatD, dNil0, dYes, pdCopyG, plKeysG, dAugS, sSet, sPut, dSorSetT, dLenSet, oNo, oYes, dSlL, dSlT, dRepL, dIxL, dTpl, fE, qE, dLRng, dRevT, dNeg, iE, iL, iR1, iR2, iK, iEn, dFor, dLock, oAdd, oSub, oMul, oDiv, oMod, oLt, oLe, oGt, oGe, oEq, oNe, oIn, oNotIn, oIx, oIs, oIsNot, oI, SD.isNon, inB, ixB, ixC, eqB_int, eqB_bl, eqB_str, at_nat, atI_0, atI_1, atI_2, atI_3, atI_4, ixN_0, ixN_1, ixN_2, ixN_3, ixN_4, KeyC, lenB, SD.rLen, rInt, rMax2, mAppend, mExtend, mPop, mIndex, mIndexT, mUpdate, intsD, intsOf, bools, List.set_cons_zero, List.set_cons_succ, List.length_cons, List.length_nil, Bool.not_true, Bool.not_false, if_true, if_false, Bool.false_eq_true, true_and, and_true, Option.bind_some, List.getElem?_cons_succ, List.getElem?_cons_zero, decide_eq_true_eq, Bool.not_eq_true, gput_same, gput_gput, Option.map_some, ↓reduceIte, ite_true, String.reduceBEq, String.reduceEq, decide_true, decide_false, beq_self_eq_true]
  intro ep hep
  have hse : sp ≠ ep := fun z => by rw [z, hep] at hS; cases hS
  rw [eqB_lst (l := false) (l' := false) (xs := intsD' ls) (ys := []) (by rw [gput_ne hse]; exact hS) gput_same (by rw [levs_ints]; decide) (by decide)]
  simp only [dVar, dC, dTup, dCons, dNil, dMat, dOp, dTest, dAnd, dOr, dNot, dAndV, dOrV, dNotV, dIf, dChain, asB, slot, wipe2, dSeq, dNext, dSet, dRet, dRetN, dDrop, dIfS, dBreak, dCont, dNever, dgName, dgNil, dgCons, dgTup, dAsg, dPar, dAug, dCall, dMeth, tyG, dIsi, isB, dLenQ, dTupQ, dAny, dAll, dMaxL, dLc, dDc, dMatD, dNil0, dYes, pdCopyG, plKeysG, dAugS, sSet, sPut, dSorSetT, dLenSet, oNo, oYes, dSlL, dSlT, dRepL, dIxL, dTpl, fE, qE, dLRng, dRevT, dNeg, iE, iL, iR1, iR2, iK, iEn, dFor, dLock, oAdd, oSub, oMul, oDiv, oMod, oLt, oLe, oGt, oGe, oEq, oNe, oIn, oNotIn, oIx, oIs, oIsNot, oI, SD.isNon, inB, ixB, ixC, eqB_int, eqB_bl, eqB_str, at_nat, atI_0, atI_1, atI_2, atI_3, atI_4, ixN_0, ixN_1, ixN_2, ixN_3, ixN_4, KeyC, lenB, SD.rLen, rInt, rMax2, mAppend, mExtend, mPop, mIndex, mIndexT, mUpdate, intsD, intsOf, bools, List.set_cons_zero, List.set_cons_succ, List.length_cons, List.length_nil, Bool.not_true, Bool.not_false, if_true, if_false, Bool.false_eq_true, true_and, and_true, Option.bind_some, List.getElem?_cons_succ, List.getElem?_cons_zero, decide_eq_true_eq, Bool.not_eq_true, gput_same, gput_gput, Option.map_some, ↓reduceIte, ite_true, String.reduceBEq, String.reduceEq, decide_true, decide_false, beq_self_eq_true]
  obtain ⟨_, ⟨mp, hmp⟩, ⟨msc, hmsc⟩⟩ := P.ne
  have P1 : PoolOk (gput G' ep (.lst false [])) p sc 100 := P.of (Nat.le_refl _)
    (gput_ne fun z => by rw [z, hep] at hmp; cases hmp) (gput_ne fun z => by rw [z, hep] at hmsc; cases hmsc)
  by_cases hne : ls = []
  · have e1 : decide (intsD' ls = []) = true := decide_eq_true (by rw [hne]; rfl)
    rw [e1]
    simp only [dVar, dC, dTup, dCons, dNil, dMat, dOp, dTest, dAnd, dOr, dNot, dAndV, dOrV, dNotV, dIf, dChain, asB, slot, wipe2, dSeq, dNext, dSet, dRet, dRetN, dDrop, dIfS, dBreak, dCont, dNever, dgName, dgNil, dgCons, dgTup, dAsg, dPar, dAug, dCall, dMeth, tyG, dIsi, isB, dLenQ, dTupQ, dAny, dAll, dMaxL, dLc, dDc, dMatD, dNil0, dYes, pdCopyG, plKeysG, dAugS, sSet, sPut, dSorSetT, dLenSet, oNo, oYes, dSlL, dSlT, dRepL, dIxL, dTpl, fE, qE, dLRng, dRevT, dNeg, iE, iL, iR1, iR2, iK, iEn, dFor, dLock, oAdd, oSub, oMul, oDiv, oMod, oLt, oLe, oGt, oGe, oEq, oNe, oIn, oNotIn, oIx, oIs, oIsNot, oI, SD.isNon, inB, ixB, ixC, eqB_int, eqB_bl, eqB_str, at_nat, atI_0, atI_1, atI_2, atI_3, atI_4, ixN_0, ixN_1, ixN_2, ixN_3, ixN_4, KeyC, lenB, SD.rLen, rInt, rMax2, mAppend, mExtend, mPop, mIndex, mIndexT, mUpdate, intsD, intsOf, bools, List.set_cons_zero, List.set_cons_succ, List.length_cons, List.length_nil, Bool.not_true, Bool.not_false, if_true, if_false, Bool.false_eq_true, true_and, and_true, Option.bind_some, List.getElem?_cons_succ, List.getElem?_cons_zero, decide_eq_true_eq, Bool.not_eq_true, gput_same, gput_gput, Option.map_some, ↓reduceIte, ite_true, String.reduceBEq, String.reduceEq, decide_true, decide_false, beq_self_eq_true]
    exact hnx _ _ ⟨P1, _, _, _, _, _, _, _, _, _, _, _, _, _, _, _, _, _, _, _, _, rfl⟩
  · have hne' : intsD' ls ≠ [] := fun z => hne (by unfold intsD' at z; exact List.map_eq_nil_iff.mp z)
    rw [decide_eq_false hne']
    simp only [dVar, dC, dTup, dCons, dNil, dMat, dOp, dTest, dAnd, dOr, dNot, dAndV, dOrV, dNotV, dIf, dChain, asB, slot, wipe2, dSeq, dNext, dSet, dRet, dRetN, dDrop, dIfS, dBreak, dCont, dNever, dgName, dgNil, dgCons, dgTup, dAsg, dPar, dAug, dCall, dMeth, tyG, dIsi, isB, dLenQ, dTupQ, dAny, dAll, dMaxL, dLc, dDc, dMatD, dNil0, dYes, pdCopyG, plKeysG, dAugS, sSet, sPut, dSorSetT, dLenSet, oNo, oYes, dSlL, dSlT, dRepL, dIxL, dTpl, fE, qE, dLRng, dRevT, dNeg, iE, iL, iR1, iR2, iK, iEn, dFor, dLock, oAdd, oSub, oMul, oDiv, oMod, oLt, oLe, oGt, oGe, oEq, oNe, oIn, oNotIn, oIx, oIs, oIsNot, oI, SD.isNon, inB, ixB, ixC, eqB_int, eqB_bl, eqB_str, at_nat, atI_0, atI_1, atI_2, atI_3, atI_4, ixN_0, ixN_1, ixN_2, ixN_3, ixN_4, KeyC, lenB, SD.rLen, rInt, rMax2, mAppend, mExtend, mPop, mIndex, mIndexT, mUpdate, intsD, intsOf, bools, List.set_cons_zero, List.set_cons_succ, List.length_cons, List.length_nil, Bool.not_true, Bool.not_false, if_true, if_false, Bool.false_eq_true, true_and, and_true, Option.bind_some, List.getElem?_cons_succ, List.getElem?_cons_zero, decide_eq_true_eq, Bool.not_eq_true, gput_same, gput_gput, Option.map_some, ↓reduceIte, ite_true, String.reduceBEq, String.reduceEq, decide_true, decide_false, beq_self_eq_true]
    exact t_8 c m P1 (by rw [gput_ne hse]; exact hS) hne hnx

theorem t_6 {x7 x9 x10 x11 x12 x13 x14 x15 x16 x17 x18 x19 x20 x21 x22 x23 x24 x25 : Option D} (c : Ctx gm w f) (m : Ls gm w q ls) (P : PoolOk G p sc 100) (hS : G sp = some (.lst false (intsD' ls))) (hnx : ∀ δ G', Goes ns p sc gm w f δ G' → E.nx δ G') : b_law_6 (WF T (k + 19)) E [some (.scr ns), some (.ref p), some (.tup (gm.map spotD)), some (.int (gm.map spotD).length), some (winD gm w), some (rowsD gm w f), some (.int q), x7, some (.ref sp), x9, x10, x11, x12, x13, x14, x15, x16, x17, x18, x19, x20, x21, x22, x23, x24, x25] G := by
  unfold b_law_6
  have hsl : sizeLine = 16777216 := sizeLine_eq
  have most := c.most
  have two := c.two
  have lls := m.le
  have cq := c.sol.cert q m.q2
  have hil := ints_len ls
  have lvl : ∀ (x : Nat) (es : List Nat), lev (D.int (x : Nat)) ≤ 60 ∧ levs (intsD' es) ≤ 59 := fun x es => ⟨by simp [lev], by rw [levs_ints]; decide⟩
  have rat : ∀ j, j < gm.length → ((List.range gm.length).map (rowD gm w f))[j]? = some (rowD gm w f j) := fun j hj => by simp [hj]
  refine seq_gen (fun δ G' => G' = G ∧ δ = [some (.scr ns), some (.ref p), some (.tup (gm.map spotD)), some (.int (gm.map spotD).length), some (winD gm w), some (rowsD gm w f), some (.int q), x7, some (.ref sp), x9, x10, x11, x12, x13, x14, x15, x16, x17, x18, x19, x20, x21, x22, x23, x24, x25]) (fun K hK => ?_) ?_
  · have h1 := hK _ _ ⟨rfl, rfl⟩
    unfold rowsD at h1 ⊢
    refine if_i ?_
    simp only [dVar, dC, dTup, dCons, dNil, dMat, dOp, dTest, dAnd, dOr, dNot, dAndV, dOrV, dNotV, dIf, dChain, asB, slot, wipe2, dSeq, dNext, dSet, dRet, dRetN, dDrop, dIfS, dBreak, dCont, dNever, dgName, dgNil, dgCons, dgTup, dAsg, dPar, dAug, dCall, dMeth, tyG, dIsi, isB, dLenQ, dTupQ, dAny, dAll, dMaxL, dLc, dDc, dMatD, dNil0, dYes, pdCopyG, plKeysG, dAugS, sSet, sPut, dSorSetT, dLenSet, oNo, oYes, dSlL, dSlT, dRepL, dIxL, dTpl, fE, qE, dLRng, dRevT, dNeg, iE, iL, iR1, iR2, iK, iEn, dFor, dLock, oAdd, oSub, oMul, oDiv, oMod, oLt, oLe, oGt, oGe, oEq, oNe, oIn, oNotIn, oIx, oIs, oIsNot, oI, SD.isNon, inB, ixB, ixC, eqB_int, eqB_bl, eqB_str, at_nat, atI_0, atI_1, atI_2, atI_3, atI_4, ixN_0, ixN_1, ixN_2, ixN_3, ixN_4, KeyC, lenB, SD.rLen, rInt, rMax2, mAppend, mExtend, mPop, mIndex, mIndexT, mUpdate, intsD, intsOf, bools, List.set_cons_zero, List.set_cons_succ, List.length_cons, List.length_nil, Bool.not_true, Bool.not_false, if_true, if_false, Bool.false_eq_true, true_and, and_true, Option.bind_some, List.getElem?_cons_succ, List.getElem?_cons_zero, decide_eq_true_eq, Bool.not_eq_true, gput_same, gput_gput, Option.map_some, ↓reduceIte, ite_true, String.reduceBEq, String.reduceEq, decide_true, decide_false, beq_self_eq_true, hS]
    refine ⟨by omega, lc_nothing hS ls (fun j hj R1 R0 r => ?_) ?_⟩
    · obtain ⟨hjn, hwj⟩ := (m.mem j).mp hj
      obtain ⟨s, hsj, hown, hlv, hE⟩ := gm_at hjn
      simp only [dVar, dC, dTup, dCons, dNil, dMat, dOp, dTest, dAnd, dOr, dNot, dAndV, dOrV, dNotV, dIf, dChain, asB, slot, wipe2, dSeq, dNext, dSet, dRet, dRetN, dDrop, dIfS, dBreak, dCont, dNever, dgName, dgNil, dgCons, dgTup, dAsg, dPar, dAug, dCall, dMeth, tyG, dIsi, isB, dLenQ, dTupQ, dAny, dAll, dMaxL, dLc, dDc, dMatD, dNil0, dYes, pdCopyG, plKeysG, dAugS, sSet, sPut, dSorSetT, dLenSet, oNo, oYes, dSlL, dSlT, dRepL, dIxL, dTpl, fE, qE, dLRng, dRevT, dNeg, iE, iL, iR1, iR2, iK, iEn, dFor, dLock, oAdd, oSub, oMul, oDiv, oMod, oLt, oLe, oGt, oGe, oEq, oNe, oIn, oNotIn, oIx, oIs, oIsNot, oI, SD.isNon, inB, ixB, ixC, eqB_int, eqB_bl, eqB_str, at_nat, atI_0, atI_1, atI_2, atI_3, atI_4, ixN_0, ixN_1, ixN_2, ixN_3, ixN_4, KeyC, lenB, SD.rLen, rInt, rMax2, mAppend, mExtend, mPop, mIndex, mIndexT, mUpdate, intsD, intsOf, bools, List.set_cons_zero, List.set_cons_succ, List.length_cons, List.length_nil, Bool.not_true, Bool.not_false, if_true, if_false, Bool.false_eq_true, true_and, and_true, Option.bind_some, List.getElem?_cons_succ, List.getElem?_cons_zero, decide_eq_true_eq, Bool.not_eq_true, gput_same, gput_gput, Option.map_some, ↓reduceIte, ite_true, String.reduceBEq, String.reduceEq, decide_true, decide_false, beq_self_eq_true, List.getElem?_map, hsj, spotD]
      refine ite2 (fun ho => ?_) fun ho => r
      have ho' : (gmOf gm).own j = w j := by rw [hown, hwj]; omega
      have hrow : rowD gm w f j = .int (f j) := if_pos ho'
      obtain ⟨m1, m2⟩ := cq.mine j ⟨hjn, hwj⟩ (ho'.trans hwj)
      rw [hE] at m1
      simp only [dVar, dC, dTup, dCons, dNil, dMat, dOp, dTest, dAnd, dOr, dNot, dAndV, dOrV, dNotV, dIf, dChain, asB, slot, wipe2, dSeq, dNext, dSet, dRet, dRetN, dDrop, dIfS, dBreak, dCont, dNever, dgName, dgNil, dgCons, dgTup, dAsg, dPar, dAug, dCall, dMeth, tyG, dIsi, isB, dLenQ, dTupQ, dAny, dAll, dMaxL, dLc, dDc, dMatD, dNil0, dYes, pdCopyG, plKeysG, dAugS, sSet, sPut, dSorSetT, dLenSet, oNo, oYes, dSlL, dSlT, dRepL, dIxL, dTpl, fE, qE, dLRng, dRevT, dNeg, iE, iL, iR1, iR2, iK, iEn, dFor, dLock, oAdd, oSub, oMul, oDiv, oMod, oLt, oLe, oGt, oGe, oEq, oNe, oIn, oNotIn, oIx, oIs, oIsNot, oI, SD.isNon, inB, ixB, ixC, eqB_int, eqB_bl, eqB_str, at_nat, atI_0, atI_1, atI_2, atI_3, atI_4, ixN_0, ixN_1, ixN_2, ixN_3, ixN_4, KeyC, lenB, SD.rLen, rInt, rMax2, mAppend, mExtend, mPop, mIndex, mIndexT, mUpdate, intsD, intsOf, bools, List.set_cons_zero, List.set_cons_succ, List.length_cons, List.length_nil, Bool.not_true, Bool.not_false, if_true, if_false, Bool.false_eq_true, true_and, and_true, Option.bind_some, List.getElem?_cons_succ, List.getElem?_cons_zero, decide_eq_true_eq, Bool.not_eq_true, gput_same, gput_gput, Option.map_some, ↓reduceIte, ite_true, String.reduceBEq, String.reduceEq, decide_true, decide_false, beq_self_eq_true, List.getElem?_range hjn, hrow]
      rw [if_pos (lvl _ _)]
      simp only [dVar, dC, dTup, dCons, dNil, dMat, dOp, dTest, dAnd, dOr, dNot, dAndV, dOrV, dNotV, dIf, dChain, asB, slot, wipe2, dSeq, dNext, dSet, dRet, dRetN, dDrop, dIfS, dBreak, dCont, dNever, dgName, dgNil, dgCons, dgTup, dAsg, dPar, dAug, dCall, dMeth, tyG, dIsi, isB, dLenQ, dTupQ, dAny, dAll, dMaxL, dLc, dDc, dMatD, dNil0, dYes, pdCopyG, plKeysG, dAugS, sSet, sPut, dSorSetT, dLenSet, oNo, oYes, dSlL, dSlT, dRepL, dIxL, dTpl, fE, qE, dLRng, dRevT, dNeg, iE, iL, iR1, iR2, iK, iEn, dFor, dLock, oAdd, oSub, oMul, oDiv, oMod, oLt, oLe, oGt, oGe, oEq, oNe, oIn, oNotIn, oIx, oIs, oIsNot, oI, SD.isNon, inB, ixB, ixC, eqB_int, eqB_bl, eqB_str, at_nat, atI_0, atI_1, atI_2, atI_3, atI_4, ixN_0, ixN_1, ixN_2, ixN_3, ixN_4, KeyC, lenB, SD.rLen, rInt, rMax2, mAppend, mExtend, mPop, mIndex, mIndexT, mUpdate, intsD, intsOf, bools, List.set_cons_zero, List.set_cons_succ, List.length_cons, List.length_nil, Bool.not_true, Bool.not_false, if_true, if_false, Bool.false_eq_true, true_and, and_true, Option.bind_some, List.getElem?_cons_succ, List.getElem?_cons_zero, decide_eq_true_eq, Bool.not_eq_true, gput_same, gput_gput, Option.map_some, ↓reduceIte, ite_true, String.reduceBEq, String.reduceEq, decide_true, decide_false, beq_self_eq_true, decide_eq_true (mem_ints.mpr m1), hS]
      rw [if_pos (lvl _ _)]
      simp only [dVar, dC, dTup, dCons, dNil, dMat, dOp, dTest, dAnd, dOr, dNot, dAndV, dOrV, dNotV, dIf, dChain, asB, slot, wipe2, dSeq, dNext, dSet, dRet, dRetN, dDrop, dIfS, dBreak, dCont, dNever, dgName, dgNil, dgCons, dgTup, dAsg, dPar, dAug, dCall, dMeth, tyG, dIsi, isB, dLenQ, dTupQ, dAny, dAll, dMaxL, dLc, dDc, dMatD, dNil0, dYes, pdCopyG, plKeysG, dAugS, sSet, sPut, dSorSetT, dLenSet, oNo, oYes, dSlL, dSlT, dRepL, dIxL, dTpl, fE, qE, dLRng, dRevT, dNeg, iE, iL, iR1, iR2, iK, iEn, dFor, dLock, oAdd, oSub, oMul, oDiv, oMod, oLt, oLe, oGt, oGe, oEq, oNe, oIn, oNotIn, oIx, oIs, oIsNot, oI, SD.isNon, inB, ixB, ixC, eqB_int, eqB_bl, eqB_str, at_nat, atI_0, atI_1, atI_2, atI_3, atI_4, ixN_0, ixN_1, ixN_2, ixN_3, ixN_4, KeyC, lenB, SD.rLen, rInt, rMax2, mAppend, mExtend, mPop, mIndex, mIndexT, mUpdate, intsD, intsOf, bools, List.set_cons_zero, List.set_cons_succ, List.length_cons, List.length_nil, Bool.not_true, Bool.not_false, if_true, if_false, Bool.false_eq_true, true_and, and_true, Option.bind_some, List.getElem?_cons_succ, List.getElem?_cons_zero, decide_eq_true_eq, Bool.not_eq_true, gput_same, gput_gput, Option.map_some, ↓reduceIte, ite_true, String.reduceBEq, String.reduceEq, decide_true, decide_false, beq_self_eq_true, decide_eq_true (mem_ints.mpr ((m.mem _).mpr m2))]
      exact r
    · simp only [dVar, dC, dTup, dCons, dNil, dMat, dOp, dTest, dAnd, dOr, dNot, dAndV, dOrV, dNotV, dIf, dChain, asB, slot, wipe2, dSeq, dNext, dSet, dRet, dRetN, dDrop, dIfS, dBreak, dCont, dNever, dgName, dgNil, dgCons, dgTup, dAsg, dPar, dAug, dCall, dMeth, tyG, dIsi, isB, dLenQ, dTupQ, dAny, dAll, dMaxL, dLc, dDc, dMatD, dNil0, dYes, pdCopyG, plKeysG, dAugS, sSet, sPut, dSorSetT, dLenSet, oNo, oYes, dSlL, dSlT, dRepL, dIxL, dTpl, fE, qE, dLRng, dRevT, dNeg, iE, iL, iR1, iR2, iK, iEn, dFor, dLock, oAdd, oSub, oMul, oDiv, oMod, oLt, oLe, oGt, oGe, oEq, oNe, oIn, oNotIn, oIx, oIs, oIsNot, oI, SD.isNon, inB, ixB, ixC, eqB_int, eqB_bl, eqB_str, at_nat, atI_0, atI_1, atI_2, atI_3, atI_4, ixN_0, ixN_1, ixN_2, ixN_3, ixN_4, KeyC, lenB, SD.rLen, rInt, rMax2, mAppend, mExtend, mPop, mIndex, mIndexT, mUpdate, intsD, intsOf, bools, List.set_cons_zero, List.set_cons_succ, List.length_cons, List.length_nil, Bool.not_true, Bool.not_false, if_true, if_false, Bool.false_eq_true, true_and, and_true, Option.bind_some, List.getElem?_cons_succ, List.getElem?_cons_zero, decide_eq_true_eq, Bool.not_eq_true, gput_same, gput_gput, Option.map_some, ↓reduceIte, ite_true, String.reduceBEq, String.reduceEq, decide_true, decide_false, beq_self_eq_true]
      rw [if_neg (by decide)]
      exact h1
  rintro δ G' ⟨rfl, rfl⟩
  exact t_7 c m P hS hnx
theorem t_5 {x7 x8 x9 x10 x11 x12 x13 x14 x15 x16 x17 x18 x19 x20 x21 x22 x23 x24 x25 : Option D} (c : Ctx gm w f) (q2 : q < 2) (P : PoolOk G p sc 100) (hnx : ∀ δ G', Goes ns p sc gm w f δ G' → E.nx δ G') : b_law_5 (WF T (k + 19)) E [some (.scr ns), some (.ref p), some (.tup (gm.map spotD)), some (.int (gm.map spotD).length), some (winD gm w), some (rowsD gm w f), some (.int q), x7, x8, x9, x10, x11, x12, x13, x14, x15, x16, x17, x18, x19, x20, x21, x22, x23, x24, x25] G := by
  unfold b_law_5
  have hsl : sizeLine = 16777216 := sizeLine_eq
  have most := c.most
  have hn1 : ((gm.map spotD).length : Int).toNat = gm.length := by rw [List.length_map]; omega
  have wat : ∀ j, j < gm.length → (intsD' ((List.range gm.length).map w))[j]? = some (.int (w j)) := fun j hj => by simp [intsD', hj]
  refine seq_gen (fun δ G' => ∃ sp, G sp = none ∧ G' = gput G sp (.lst false (intsD' ((List.range gm.length).filter fun k => decide (w k = q)))) ∧ δ = [some (.scr ns), some (.ref p), some (.tup (gm.map spotD)), some (.int (gm.map spotD).length), some (winD gm w), some (rowsD gm w f), some (.int q), x7, some (.ref sp), x9, x10, x11, x12, x13, x14, x15, x16, x17, x18, x19, x20, x21, x22, x23, x24, x25]) (fun K hK => ?_) ?_
  · have h1 := fun sp h => hK _ _ ⟨sp, h, rfl, rfl⟩
    unfold winD at h1 ⊢
    simp only [dVar, dC, dTup, dCons, dNil, dMat, dOp, dTest, dAnd, dOr, dNot, dAndV, dOrV, dNotV, dIf, dChain, asB, slot, wipe2, dSeq, dNext, dSet, dRet, dRetN, dDrop, dIfS, dBreak, dCont, dNever, dgName, dgNil, dgCons, dgTup, dAsg, dPar, dAug, dCall, dMeth, tyG, dIsi, isB, dLenQ, dTupQ, dAny, dAll, dMaxL, dLc, dDc, dMatD, dNil0, dYes, pdCopyG, plKeysG, dAugS, sSet, sPut, dSorSetT, dLenSet, oNo, oYes, dSlL, dSlT, dRepL, dIxL, dTpl, fE, qE, dLRng, dRevT, dNeg, iE, iL, iR1, iR2, iK, iEn, dFor, dLock, oAdd, oSub, oMul, oDiv, oMod, oLt, oLe, oGt, oGe, oEq, oNe, oIn, oNotIn, oIx, oIs, oIsNot, oI, SD.isNon, inB, ixB, ixC, eqB_int, eqB_bl, eqB_str, at_nat, atI_0, atI_1, atI_2, atI_3, atI_4, ixN_0, ixN_1, ixN_2, ixN_3, ixN_4, KeyC, lenB, SD.rLen, rInt, rMax2, mAppend, mExtend, mPop, mIndex, mIndexT, mUpdate, intsD, intsOf, bools, List.set_cons_zero, List.set_cons_succ, List.length_cons, List.length_nil, Bool.not_true, Bool.not_false, if_true, if_false, Bool.false_eq_true, true_and, and_true, Option.bind_some, List.getElem?_cons_succ, List.getElem?_cons_zero, decide_eq_true_eq, Bool.not_eq_true, gput_same, gput_gput, Option.map_some, ↓reduceIte, ite_true, String.reduceBEq, String.reduceEq, decide_true, decide_false, beq_self_eq_true]
    rw [hn1, rngD0]
    refine ⟨by rw [List.length_map]; omega, by simp; omega, ?_⟩
    refine lc_pure (fun d => match d with | .int i => if w i.toNat = q then some (.int i) else none | _ => none) trivial _ [] (fun x hx R1 R0 r => ?_) ?_
    · obtain ⟨j, hj, rfl⟩ := List.mem_map.mp hx
      have hj' := List.mem_range.mp hj
      simp only [Int.toNat_natCast] at r
      simp only [dVar, dC, dTup, dCons, dNil, dMat, dOp, dTest, dAnd, dOr, dNot, dAndV, dOrV, dNotV, dIf, dChain, asB, slot, wipe2, dSeq, dNext, dSet, dRet, dRetN, dDrop, dIfS, dBreak, dCont, dNever, dgName, dgNil, dgCons, dgTup, dAsg, dPar, dAug, dCall, dMeth, tyG, dIsi, isB, dLenQ, dTupQ, dAny, dAll, dMaxL, dLc, dDc, dMatD, dNil0, dYes, pdCopyG, plKeysG, dAugS, sSet, sPut, dSorSetT, dLenSet, oNo, oYes, dSlL, dSlT, dRepL, dIxL, dTpl, fE, qE, dLRng, dRevT, dNeg, iE, iL, iR1, iR2, iK, iEn, dFor, dLock, oAdd, oSub, oMul, oDiv, oMod, oLt, oLe, oGt, oGe, oEq, oNe, oIn, oNotIn, oIx, oIs, oIsNot, oI, SD.isNon, inB, ixB, ixC, eqB_int, eqB_bl, eqB_str, at_nat, atI_0, atI_1, atI_2, atI_3, atI_4, ixN_0, ixN_1, ixN_2, ixN_3, ixN_4, KeyC, lenB, SD.rLen, rInt, rMax2, mAppend, mExtend, mPop, mIndex, mIndexT, mUpdate, intsD, intsOf, bools, List.set_cons_zero, List.set_cons_succ, List.length_cons, List.length_nil, Bool.not_true, Bool.not_false, if_true, if_false, Bool.false_eq_true, true_and, and_true, Option.bind_some, List.getElem?_cons_succ, List.getElem?_cons_zero, decide_eq_true_eq, Bool.not_eq_true, gput_same, gput_gput, Option.map_some, ↓reduceIte, ite_true, String.reduceBEq, String.reduceEq, decide_true, decide_false, beq_self_eq_true, wat j hj']
      by_cases h : w j = q
      · rw [if_pos h] at r
        rw [if_pos (by rw [h])]; exact r
      · rw [if_neg h] at r
        rw [if_neg (by omega)]; exact r
    · rw [filt_w]
      exact fun sp hsp => h1 sp hsp
  rintro δ G' ⟨sp, hsp, rfl, rfl⟩
  obtain ⟨_, ⟨mp, hmp⟩, ⟨msc, hmsc⟩⟩ := P.ne
  refine t_6 c ⟨q2, fun k => by rw [List.mem_filter, List.mem_range, decide_eq_true_eq], ?_⟩ (P.of (Nat.le_refl _) (gput_ne fun z => by rw [z, hsp] at hmp; cases hmp) (gput_ne fun z => by rw [z, hsp] at hmsc; cases hmsc)) gput_same hnx
  have := List.length_filter_le (fun k => decide (w k = q)) (List.range gm.length)
  simpa using this
end
end K43

set_option Elab.async false
set_option linter.all false
set_option maxRecDepth 100000
set_option maxHeartbeats 4000000
namespace K43
open PySem PySem.Spec PyProof.Rows L2 SD
theorem w_law {k : Nat} {ns : List Int} (hl : ns.length ≤ 63) : WF T (k + 20) i_law [.scr ns] (fun _ => none) fun d _ => d = .bl true := by
  refine run rfl ?_
  show b_law (WF T (k + 19)) _ [some (.scr ns), none, none, none, none, none, none, none, none, none, none, none, none, none, none, none, none, none, none, none, none, none, none, none, none, none] (fun _ => none)
  unfold b_law
  have hsl : sizeLine = 16777216 := sizeLine_eq
  refine seq_gen (fun δ G => ∃ p sc, PoolOk G p sc 0 ∧ δ = [some (.scr ns), some (.ref p), none, none, none, none, none, none, none, none, none, none, none, none, none, none, none, none, none, none, none, none, none, none, none, none]) (fun K hK => ?_) ?_
  · simp only [dVar, dC, dTup, dCons, dNil, dMat, dOp, dTest, dAnd, dOr, dNot, dAndV, dOrV, dNotV, dIf, dChain, asB, slot, wipe2, dSeq, dNext, dSet, dRet, dRetN, dDrop, dIfS, dBreak, dCont, dNever, dgName, dgNil, dgCons, dgTup, dAsg, dPar, dAug, dCall, dMeth, tyG, dIsi, isB, dLenQ, dTupQ, dAny, dAll, dMaxL, dLc, dDc, dMatD, dNil0, dYes, pdCopyG, plKeysG, dAugS, sSet, sPut, dSorSetT, dLenSet, oNo, oYes, dSlL, dSlT, dRepL, dIxL, dTpl, fE, qE, dLRng, dRevT, dNeg, iE, iL, iR1, iR2, iK, iEn, dFor, dLock, oAdd, oSub, oMul, oDiv, oMod, oLt, oLe, oGt, oGe, oEq, oNe, oIn, oNotIn, oIx, oIs, oIsNot, oI, SD.isNon, inB, ixB, ixC, eqB_int, eqB_bl, eqB_str, at_nat, atI_0, atI_1, atI_2, atI_3, atI_4, ixN_0, ixN_1, ixN_2, ixN_3, ixN_4, KeyC, lenB, SD.rLen, rInt, rMax2, mAppend, mExtend, mPop, mIndex, mIndexT, mUpdate, intsD, intsOf, bools, List.set_cons_zero, List.set_cons_succ, List.length_cons, List.length_nil, Bool.not_true, Bool.not_false, if_true, if_false, Bool.false_eq_true, true_and, and_true, Option.bind_some, List.getElem?_cons_succ, List.getElem?_cons_zero, decide_eq_true_eq, Bool.not_eq_true, gput_same, gput_gput, Option.map_some, ↓reduceIte, ite_true, String.reduceBEq, String.reduceEq, decide_true, decide_false, beq_self_eq_true]
    refine w_pool hl fun p sc G1 P1 s1 hp1 hsc1 => ?_
    exact hK _ _ ⟨p, sc, P1, rfl⟩
  rintro δ G ⟨p, sc, P, rfl⟩
  unfold b_law_1
  refine seq_gen (fun δ G => ∃ gm : List Spot, 2 ≤ gm.length ∧ gm.length ≤ 11 ∧ GmOk gm ∧ (∀ s ∈ gm, s.2.1 < 5) ∧ (∀ s ∈ gm, s.2.2.length ≤ 3) ∧ PoolOk G p sc 100 ∧ δ = [some (.scr ns), some (.ref p), some (gameD gm), none, none, none, none, none, none, none, none, none, none, none, none, none, none, none, none, none, none, none, none, none, none, none]) (fun K hK => ?_) ?_
  · simp only [dVar, dC, dTup, dCons, dNil, dMat, dOp, dTest, dAnd, dOr, dNot, dAndV, dOrV, dNotV, dIf, dChain, asB, slot, wipe2, dSeq, dNext, dSet, dRet, dRetN, dDrop, dIfS, dBreak, dCont, dNever, dgName, dgNil, dgCons, dgTup, dAsg, dPar, dAug, dCall, dMeth, tyG, dIsi, isB, dLenQ, dTupQ, dAny, dAll, dMaxL, dLc, dDc, dMatD, dNil0, dYes, pdCopyG, plKeysG, dAugS, sSet, sPut, dSorSetT, dLenSet, oNo, oYes, dSlL, dSlT, dRepL, dIxL, dTpl, fE, qE, dLRng, dRevT, dNeg, iE, iL, iR1, iR2, iK, iEn, dFor, dLock, oAdd, oSub, oMul, oDiv, oMod, oLt, oLe, oGt, oGe, oEq, oNe, oIn, oNotIn, oIx, oIs, oIsNot, oI, SD.isNon, inB, ixB, ixC, eqB_int, eqB_bl, eqB_str, at_nat, atI_0, atI_1, atI_2, atI_3, atI_4, ixN_0, ixN_1, ixN_2, ixN_3, ixN_4, KeyC, lenB, SD.rLen, rInt, rMax2, mAppend, mExtend, mPop, mIndex, mIndexT, mUpdate, intsD, intsOf, bools, List.set_cons_zero, List.set_cons_succ, List.length_cons, List.length_nil, Bool.not_true, Bool.not_false, if_true, if_false, Bool.false_eq_true, true_and, and_true, Option.bind_some, List.getElem?_cons_succ, List.getElem?_cons_zero, decide_eq_true_eq, Bool.not_eq_true, gput_same, gput_gput, Option.map_some, ↓reduceIte, ite_true, String.reduceBEq, String.reduceEq, decide_true, decide_false, beq_self_eq_true]
    refine w_draw P (by rw [bigN_eq]; omega) (by decide) (by decide) fun r G1 h0 h1 P1 hf1 => ?_
    obtain ⟨r, rfl⟩ : ∃ j : Nat, r = (j : Int) := ⟨r.toNat, by omega⟩
    simp only [dVar, dC, dTup, dCons, dNil, dMat, dOp, dTest, dAnd, dOr, dNot, dAndV, dOrV, dNotV, dIf, dChain, asB, slot, wipe2, dSeq, dNext, dSet, dRet, dRetN, dDrop, dIfS, dBreak, dCont, dNever, dgName, dgNil, dgCons, dgTup, dAsg, dPar, dAug, dCall, dMeth, tyG, dIsi, isB, dLenQ, dTupQ, dAny, dAll, dMaxL, dLc, dDc, dMatD, dNil0, dYes, pdCopyG, plKeysG, dAugS, sSet, sPut, dSorSetT, dLenSet, oNo, oYes, dSlL, dSlT, dRepL, dIxL, dTpl, fE, qE, dLRng, dRevT, dNeg, iE, iL, iR1, iR2, iK, iEn, dFor, dLock, oAdd, oSub, oMul, oDiv, oMod, oLt, oLe, oGt, oGe, oEq, oNe, oIn, oNotIn, oIx, oIs, oIsNot, oI, SD.isNon, inB, ixB, ixC, eqB_int, eqB_bl, eqB_str, at_nat, atI_0, atI_1, atI_2, atI_3, atI_4, ixN_0, ixN_1, ixN_2, ixN_3, ixN_4, KeyC, lenB, SD.rLen, rInt, rMax2, mAppend, mExtend, mPop, mIndex, mIndexT, mUpdate, intsD, intsOf, bools, List.set_cons_zero, List.set_cons_succ, List.length_cons, List.length_nil, Bool.not_true, Bool.not_false, if_true, if_false, Bool.false_eq_true, true_and, and_true, Option.bind_some, List.getElem?_cons_succ, List.getElem?_cons_zero, decide_eq_true_eq, Bool.not_eq_true, gput_same, gput_gput, Option.map_some, ↓reduceIte, ite_true, String.reduceBEq, String.reduceEq, decide_true, decide_false, beq_self_eq_true]
    have e2 : (2 : Int) + (r : Int) = ((2 + r : Nat) : Int) := by omega
    rw [e2]
    refine w_lgame P1 (by omega) (by omega) (by rw [bigN_eq]; omega) fun gm G2 hgl ok hlv hfew P2 hf2 => ?_
    exact hK _ _ ⟨gm, by omega, by omega, ok, hlv, hfew, P2.of (by omega) rfl rfl, rfl⟩
  rintro δ G ⟨gm, hg2, hg11, ok, hlv, hfew, P, rfl⟩
  unfold b_law_2
  refine seq_i ?_
  unfold gameD
  simp only [dVar, dC, dTup, dCons, dNil, dMat, dOp, dTest, dAnd, dOr, dNot, dAndV, dOrV, dNotV, dIf, dChain, asB, slot, wipe2, dSeq, dNext, dSet, dRet, dRetN, dDrop, dIfS, dBreak, dCont, dNever, dgName, dgNil, dgCons, dgTup, dAsg, dPar, dAug, dCall, dMeth, tyG, dIsi, isB, dLenQ, dTupQ, dAny, dAll, dMaxL, dLc, dDc, dMatD, dNil0, dYes, pdCopyG, plKeysG, dAugS, sSet, sPut, dSorSetT, dLenSet, oNo, oYes, dSlL, dSlT, dRepL, dIxL, dTpl, fE, qE, dLRng, dRevT, dNeg, iE, iL, iR1, iR2, iK, iEn, dFor, dLock, oAdd, oSub, oMul, oDiv, oMod, oLt, oLe, oGt, oGe, oEq, oNe, oIn, oNotIn, oIx, oIs, oIsNot, oI, SD.isNon, inB, ixB, ixC, eqB_int, eqB_bl, eqB_str, at_nat, atI_0, atI_1, atI_2, atI_3, atI_4, ixN_0, ixN_1, ixN_2, ixN_3, ixN_4, KeyC, lenB, SD.rLen, rInt, rMax2, mAppend, mExtend, mPop, mIndex, mIndexT, mUpdate, intsD, intsOf, bools, List.set_cons_zero, List.set_cons_succ, List.length_cons, List.length_nil, Bool.not_true, Bool.not_false, if_true, if_false, Bool.false_eq_true, true_and, and_true, Option.bind_some, List.getElem?_cons_succ, List.getElem?_cons_zero, decide_eq_true_eq, Bool.not_eq_true, gput_same, gput_gput, Option.map_some, ↓reduceIte, ite_true, String.reduceBEq, String.reduceEq, decide_true, decide_false, beq_self_eq_true]
  unfold b_law_3
  refine seq_i ?_
  simp only [dVar, dC, dTup, dCons, dNil, dMat, dOp, dTest, dAnd, dOr, dNot, dAndV, dOrV, dNotV, dIf, dChain, asB, slot, wipe2, dSeq, dNext, dSet, dRet, dRetN, dDrop, dIfS, dBreak, dCont, dNever, dgName, dgNil, dgCons, dgTup, dAsg, dPar, dAug, dCall, dMeth, tyG, dIsi, isB, dLenQ, dTupQ, dAny, dAll, dMaxL, dLc, dDc, dMatD, dNil0, dYes, pdCopyG, plKeysG, dAugS, sSet, sPut, dSorSetT, dLenSet, oNo, oYes, dSlL, dSlT, dRepL, dIxL, dTpl, fE, qE, dLRng, dRevT, dNeg, iE, iL, iR1, iR2, iK, iEn, dFor, dLock, oAdd, oSub, oMul, oDiv, oMod, oLt, oLe, oGt, oGe, oEq, oNe, oIn, oNotIn, oIx, oIs, oIsNot, oI, SD.isNon, inB, ixB, ixC, eqB_int, eqB_bl, eqB_str, at_nat, atI_0, atI_1, atI_2, atI_3, atI_4, ixN_0, ixN_1, ixN_2, ixN_3, ixN_4, KeyC, lenB, SD.rLen, rInt, rMax2, mAppend, mExtend, mPop, mIndex, mIndexT, mUpdate, intsD, intsOf, bools, List.set_cons_zero, List.set_cons_succ, List.length_cons, List.length_nil, Bool.not_true, Bool.not_false, if_true, if_false, Bool.false_eq_true, true_and, and_true, Option.bind_some, List.getElem?_cons_succ, List.getElem?_cons_zero, decide_eq_true_eq, Bool.not_eq_true, gput_same, gput_gput, Option.map_some, ↓reduceIte, ite_true, String.reduceBEq, String.reduceEq, decide_true, decide_false, beq_self_eq_true]
  show WF T (k + 19) i_solved_game [gameD gm] _ _
  refine w_solved (L := 5) ok hlv (by omega) fun w f sol => ?_
  have c : Ctx gm w f := ⟨hg2, hg11, ok, hlv, hfew, sol⟩
  simp only [dVar, dC, dTup, dCons, dNil, dMat, dOp, dTest, dAnd, dOr, dNot, dAndV, dOrV, dNotV, dIf, dChain, asB, slot, wipe2, dSeq, dNext, dSet, dRet, dRetN, dDrop, dIfS, dBreak, dCont, dNever, dgName, dgNil, dgCons, dgTup, dAsg, dPar, dAug, dCall, dMeth, tyG, dIsi, isB, dLenQ, dTupQ, dAny, dAll, dMaxL, dLc, dDc, dMatD, dNil0, dYes, pdCopyG, plKeysG, dAugS, sSet, sPut, dSorSetT, dLenSet, oNo, oYes, dSlL, dSlT, dRepL, dIxL, dTpl, fE, qE, dLRng, dRevT, dNeg, iE, iL, iR1, iR2, iK, iEn, dFor, dLock, oAdd, oSub, oMul, oDiv, oMod, oLt, oLe, oGt, oGe, oEq, oNe, oIn, oNotIn, oIx, oIs, oIsNot, oI, SD.isNon, inB, ixB, ixC, eqB_int, eqB_bl, eqB_str, at_nat, atI_0, atI_1, atI_2, atI_3, atI_4, ixN_0, ixN_1, ixN_2, ixN_3, ixN_4, KeyC, lenB, SD.rLen, rInt, rMax2, mAppend, mExtend, mPop, mIndex, mIndexT, mUpdate, intsD, intsOf, bools, List.set_cons_zero, List.set_cons_succ, List.length_cons, List.length_nil, Bool.not_true, Bool.not_false, if_true, if_false, Bool.false_eq_true, true_and, and_true, Option.bind_some, List.getElem?_cons_succ, List.getElem?_cons_zero, decide_eq_true_eq, Bool.not_eq_true, gput_same, gput_gput, Option.map_some, ↓reduceIte, ite_true, String.reduceBEq, String.reduceEq, decide_true, decide_false, beq_self_eq_true]
  unfold b_law_4
  refine seq_i ?_
  simp only [dVar, dC, dTup, dCons, dNil, dMat, dOp, dTest, dAnd, dOr, dNot, dAndV, dOrV, dNotV, dIf, dChain, asB, slot, wipe2, dSeq, dNext, dSet, dRet, dRetN, dDrop, dIfS, dBreak, dCont, dNever, dgName, dgNil, dgCons, dgTup, dAsg, dPar, dAug, dCall, dMeth, tyG, dIsi, isB, dLenQ, dTupQ, dAny, dAll, dMaxL, dLc, dDc, dMatD, dNil0, dYes, pdCopyG, plKeysG, dAugS, sSet, sPut, dSorSetT, dLenSet, oNo, oYes, dSlL, dSlT, dRepL, dIxL, dTpl, fE, qE, dLRng, dRevT, dNeg, iE, iL, iR1, iR2, iK, iEn, dFor, dLock, oAdd, oSub, oMul, oDiv, oMod, oLt, oLe, oGt, oGe, oEq, oNe, oIn, oNotIn, oIx, oIs, oIsNot, oI, SD.isNon, inB, ixB, ixC, eqB_int, eqB_bl, eqB_str, at_nat, atI_0, atI_1, atI_2, atI_3, atI_4, ixN_0, ixN_1, ixN_2, ixN_3, ixN_4, KeyC, lenB, SD.rLen, rInt, rMax2, mAppend, mExtend, mPop, mIndex, mIndexT, mUpdate, intsD, intsOf, bools, List.set_cons_zero, List.set_cons_succ, List.length_cons, List.length_nil, Bool.not_true, Bool.not_false, if_true, if_false, Bool.false_eq_true, true_and, and_true, Option.bind_some, List.getElem?_cons_succ, List.getElem?_cons_zero, decide_eq_true_eq, Bool.not_eq_true, gput_same, gput_gput, Option.map_some, ↓reduceIte, ite_true, String.reduceBEq, String.reduceEq, decide_true, decide_false, beq_self_eq_true]
  refine ⟨by omega, ?_⟩
  refine for_inv (ds := rngD 0 (Int.toNat 2)) (fun pre δ G' => Goes ns p sc gm w f δ G') ?_ ?_ _ [] _ _ rfl ⟨P, _, _, _, _, _, _, _, _, _, _, _, _, _, _, _, _, _, _, _, _, rfl⟩
  · rintro pre x post δ G e ⟨P, x6, x7, x8, x9, x10, x11, x12, x13, x14, x15, x16, x17, x18, x19, x20, x21, x22, x23, x24, x25, rfl⟩
    refine ⟨trivial, fun nx hx => ?_⟩
    obtain ⟨hi, rfl⟩ := rngD_mem e
    obtain ⟨q, hq⟩ : ∃ q, q = pre.length := ⟨_, rfl⟩
    have hq2 : q < 2 := by rw [hq]; exact hi
    rw [Int.zero_add, ← hq]
    simp only [dVar, dC, dTup, dCons, dNil, dMat, dOp, dTest, dAnd, dOr, dNot, dAndV, dOrV, dNotV, dIf, dChain, asB, slot, wipe2, dSeq, dNext, dSet, dRet, dRetN, dDrop, dIfS, dBreak, dCont, dNever, dgName, dgNil, dgCons, dgTup, dAsg, dPar, dAug, dCall, dMeth, tyG, dIsi, isB, dLenQ, dTupQ, dAny, dAll, dMaxL, dLc, dDc, dMatD, dNil0, dYes, pdCopyG, plKeysG, dAugS, sSet, sPut, dSorSetT, dLenSet, oNo, oYes, dSlL, dSlT, dRepL, dIxL, dTpl, fE, qE, dLRng, dRevT, dNeg, iE, iL, iR1, iR2, iK, iEn, dFor, dLock, oAdd, oSub, oMul, oDiv, oMod, oLt, oLe, oGt, oGe, oEq, oNe, oIn, oNotIn, oIx, oIs, oIsNot, oI, SD.isNon, inB, ixB, ixC, eqB_int, eqB_bl, eqB_str, at_nat, atI_0, atI_1, atI_2, atI_3, atI_4, ixN_0, ixN_1, ixN_2, ixN_3, ixN_4, KeyC, lenB, SD.rLen, rInt, rMax2, mAppend, mExtend, mPop, mIndex, mIndexT, mUpdate, intsD, intsOf, bools, List.set_cons_zero, List.set_cons_succ, List.length_cons, List.length_nil, Bool.not_true, Bool.not_false, if_true, if_false, Bool.false_eq_true, true_and, and_true, Option.bind_some, List.getElem?_cons_succ, List.getElem?_cons_zero, decide_eq_true_eq, Bool.not_eq_true, gput_same, gput_gput, Option.map_some, ↓reduceIte, ite_true, String.reduceBEq, String.reduceEq, decide_true, decide_false, beq_self_eq_true]
    exact t_5 c hq2 P hx
  · rintro δ G ⟨P, x6, x7, x8, x9, x10, x11, x12, x13, x14, x15, x16, x17, x18, x19, x20, x21, x22, x23, x24, x25, rfl⟩
    refine ⟨trivial, ?_⟩
    exact t_10 (fun G => (show endK (fun d _ => d = D.bl true) (.bl true) G from .now .refl rfl)) c P
theorem law_holds : ∀ ns : List Int, ns.length ≤ 63 → (∀ z ∈ ns, Builtin.Int.intBits z ≤ 1048576) → WF T 40 i_law [.scr ns] (fun _ => none) fun d _ => d = .bl true := fun ns hl _ => w_law (k := 20) hl
end K43

set_option Elab.async false
set_option linter.all false
set_option maxRecDepth 100000
set_option maxHeartbeats 4000000
open PySem PySem.W PyProof.Rows in
set_option maxRecDepth 100000 in
set_option maxHeartbeats 0 in
theorem PySem.Challenge.cw_sayingsdown_k43_whole_games_within_games_holds : PySem.Challenge.rw_sayingsdown_k43_whole_games_within_games.Holds := by
  w_on; o_law; k_head; (case hw => w_witness2)
  k_fill
  refine K43.walk (l := PySem.Challenge.rw_sayingsdown_k43_whole_games_within_games) rfl rfl (fun w h Y => PySem.W.kIn_of Y) ?F
  case F =>
    intro w mg fa h KX G hmg
    refine' K43.all_mk KX G hmg ?a_0 ?l_0 ?c_0 ?k_0 ?a_1 ?l_1 ?c_1 ?k_1 ?a_2 ?l_2 ?c_2 ?k_2 ?a_3 ?l_3 ?c_3 ?k_3 ?a_4 ?l_4 ?c_4 ?k_4 ?a_5 ?l_5 ?c_5 ?k_5 ?a_6 ?l_6 ?c_6 ?k_6 ?a_7 ?l_7 ?c_7 ?k_7 ?a_8 ?l_8 ?c_8 ?k_8 ?a_9 ?l_9 ?c_9 ?k_9 ?a_10 ?l_10 ?c_10 ?k_10 ?a_11 ?l_11 ?c_11 ?k_11 ?a_12 ?l_12 ?c_12 ?k_12 ?a_13 ?l_13 ?c_13 ?k_13 ?a_14 ?l_14 ?c_14 ?k_14 ?z_all ?z_bool ?z_dict ?z_enumerate ?z_int ?z_isinstance ?z_len ?z_list ?z_max ?z_range ?z_set ?z_sorted ?z_str ?z_tuple ?g_MOST_SPOTS K43.law_holds
    (case a_0 => k_is)
    (case l_0 => k_is)
    (case c_0 => k_is)
    (case k_0 => k_is)
    (case a_1 => k_is)
    (case l_1 => k_is)
    (case c_1 => k_is)
    (case k_1 => k_is)
    (case a_2 => k_is)
    (case l_2 => k_is)
    (case c_2 => k_is)
    (case k_2 => k_is)
    (case a_3 => k_is)
    (case l_3 => k_is)
    (case c_3 => k_is)
    (case k_3 => k_is)
    (case a_4 => k_is)
    (case l_4 => k_is)
    (case c_4 => k_is)
    (case k_4 => k_is)
    (case a_5 => k_is)
    (case l_5 => k_is)
    (case c_5 => k_is)
    (case k_5 => k_is)
    (case a_6 => k_is)
    (case l_6 => k_is)
    (case c_6 => k_is)
    (case k_6 => k_is)
    (case a_7 => k_is)
    (case l_7 => k_is)
    (case c_7 => k_is)
    (case k_7 => k_is)
    (case a_8 => k_is)
    (case l_8 => k_is)
    (case c_8 => k_is)
    (case k_8 => k_is)
    (case a_9 => k_is)
    (case l_9 => k_is)
    (case c_9 => k_is)
    (case k_9 => k_is)
    (case a_10 => k_is)
    (case l_10 => k_is)
    (case c_10 => k_is)
    (case k_10 => k_is)
    (case a_11 => k_is)
    (case l_11 => k_is)
    (case c_11 => k_is)
    (case k_11 => k_is)
    (case a_12 => k_is)
    (case l_12 => k_is)
    (case c_12 => k_is)
    (case k_12 => k_is)
    (case a_13 => k_is)
    (case l_13 => k_is)
    (case c_13 => k_is)
    (case k_13 => k_is)
    (case a_14 => k_is)
    (case l_14 => k_is)
    (case c_14 => k_is)
    (case k_14 => k_is)
    (case z_all => k_is)
    (case z_bool => k_is)
    (case z_dict => k_is)
    (case z_enumerate => k_is)
    (case z_int => k_is)
    (case z_isinstance => k_is)
    (case z_len => k_is)
    (case z_list => k_is)
    (case z_max => k_is)
    (case z_range => k_is)
    (case z_set => k_is)
    (case z_sorted => k_is)
    (case z_str => k_is)
    (case z_tuple => k_is)
    (case g_MOST_SPOTS => k_is)

