import PyProof.Rows.All
import Wide.All
import OpenK.AllK
import Wide.FinOn
import HandS.ForMost
import HandS.Codes
import HandS.IsInst
import HandS.CallLocal
import HandS.Conv
import HandS.More
import HandS.Deep
import HandS.DeepEq
import HandS.NoneIn
import HandS.SetKeys
import HandS.DictTup
import HandS.ClsMeth
import HandS.Walk
import PySem.Challenge.RW_mostlike_k47_whole_each_telling_of_sorts
import HandS.Head0
import HandS.Head1
import HandS.Head2
import HandS.HeadEnd
import HandS.HeadHook1
import HandS.HeadHook2
import KE.KStateDown
import PyProof.NeKinds
import PyProof.SeqRoads2
import KE.GoesEnum
import PyProof.DictMoreH
import PyProof.AutoSeq1
import HandS.Steps
import HandS.TupAny
import HandS.OwnEq
import KE.KEqDict
import HandS.Style
set_option Elab.async false
set_option linter.all false
set_option autoImplicit false
set_option maxRecDepth 100000
set_option maxHeartbeats 4000000
/-! G0: a typed layer over the hand layer: visible heap G, actual heap H, owned cells O, facts M. -/
namespace G3
open PySem L2

/-! ### two heaps -/
def Le (G H : Hp) : Prop := ∀ a u, G a = some u → H a = some u ∨ ∃ kvs o, u = .dK kvs ∧ H a = some (.frz o (.dK kvs))
theorem Le.refl (G : Hp) : Le G G := fun _ _ h => .inl h
theorem Le.trans {G H J : Hp} (x : Le G H) (y : Le H J) : Le G J := fun a u h => by
  rcases x a u h with h1 | ⟨kvs, o, rfl, h1⟩
  · exact y a u h1
  · rcases y a _ h1 with h2 | ⟨k2, o2, e, h2⟩
    · exact .inr ⟨kvs, o, rfl, h2⟩
    · cases e
theorem Le.rd {G H : Hp} {a : Addr} {u : HO} (x : Le G H) (h : Rd G a u) : Rd H a u := by
  rcases h with h | ⟨o, h⟩
  · rcases x a _ h with h1 | ⟨kvs, o, rfl, h1⟩
    · exact .inl h1
    · exact .inr ⟨o, h1⟩
  · rcases x a _ h with h1 | ⟨kvs, o2, e, h1⟩
    · exact .inr ⟨o, h1⟩
    · cases e
theorem Le.sqL {K : PySem.W.Frag} {G H : Hp} {a : Addr} {xs : List V} (x : Le G H) (h : SqL K G a xs) : SqL K H a xs := h.imp x.rd id
theorem Le.sqT {K : PySem.W.Frag} {G H : Hp} {a : Addr} {xs : List V} (x : Le G H) (h : SqT K G a xs) : SqT K H a xs := h.imp x.rd id
theorem Le.ins {G H : Hp} {a C dx : Addr} {fs : List (Str × V)} (x : Le G H) (h : G a = some (.ins C dx fs)) : H a = some (.ins C dx fs) := by
  rcases x a _ h with h1 | ⟨kvs, o, e, _⟩
  · exact h1
  · cases e
theorem Le.free {G H : Hp} {a : Addr} (x : Le G H) (h : H a = none) : G a = none := by
  cases e : G a with
  | none => rfl
  | some u =>
    rcases x a u e with h1 | ⟨_, _, _, h1⟩ <;> (rw [h] at h1; cases h1)
theorem Le.owned {G H : Hp} {p : Addr} {o : HO} (x : Le G H) (hp : G p = none) : Le G (upd H p o) := fun a u h => by
  have ne : a ≠ p := ne_of_none h hp
  rw [upd_ne ne]
  exact x a u h
structure Ext (G H G' H' : Hp) : Prop where
  gg : ∀ a, (H a).isSome = true → G' a = G a
  hh : Same H H'
  gh : Le G' H'
theorem Ext.refl {G H : Hp} (x : Le G H) : Ext G H G H := ⟨fun _ _ => rfl, Same.refl H, x⟩
theorem sameSome {H H' : Hp} (x : Same H H') {a : Addr} (h : (H a).isSome = true) : (H' a).isSome = true := by
  cases e : H a with
  | none =>
    rw [e] at h
    cases h
  | some o =>
    rw [x a o e]
    rfl
theorem Ext.trans {G H G1 H1 G2 H2 : Hp} (x : Ext G H G1 H1) (y : Ext G1 H1 G2 H2) : Ext G H G2 H2 :=
  ⟨fun a h => (y.gg a (sameSome x.hh h)).trans (x.gg a h), x.hh.trans y.hh, y.gh⟩
theorem Le.isSome {G H : Hp} (x : Le G H) {a : Addr} {u : HO} (h : G a = some u) : (H a).isSome = true := by
  rcases x a u h with h1 | ⟨_, _, _, h1⟩ <;> (rw [h1]; rfl)
theorem Ext.le {G H G' H' : Hp} (y : Ext G H G' H') (x : Le G H) : Le G G' := fun a u h => .inl ((y.gg a (x.isSome h)).trans h)
theorem Ext.own {G H G' H' : Hp} (y : Ext G H G' H') {p : Addr} {o : HO} (g : G p = none) (h : H p = some o) : G' p = none ∧ H' p = some o :=
  ⟨(y.gg p (by rw [h]; rfl)).trans g, y.hh p o h⟩
/-- a new visible object; a new owned one -/
theorem Ext.new {G H : Hp} {p : Addr} {o : HO} (x : Le G H) (h : H p = none) : Ext G H (upd G p o) (upd H p o) where
  gg := fun a ha => by
    have ne : a ≠ p := fun e => by
      rw [e, h] at ha
      cases ha
    exact upd_ne ne
  hh := fun a u e => by
    rw [upd_ne (ne_of_none e h)]
    exact e
  gh := fun a u e => by
    by_cases ne : a = p
    · subst ne
      rw [upd_same] at e ⊢
      exact .inl e
    · rw [upd_ne ne] at e ⊢
      exact x a u e
theorem Ext.newO {G H : Hp} {p : Addr} {o : HO} (x : Le G H) (h : H p = none) : Ext G H G (upd H p o) :=
  ⟨fun _ _ => rfl, fun a u e => by rw [upd_ne (ne_of_none e h)]; exact e, x.owned (x.free h)⟩
/-- an owned object of the callee's own, made visible at the end -/
theorem Ext.publish {G H G' H' : Hp} {p : Addr} {o : HO} (y : Ext G H G' H') (hn : H p = none) (hp : H' p = some o) : Ext G H (upd G' p o) H' where
  gg := fun a ha => by
    have ne : a ≠ p := fun e => by
      rw [e, hn] at ha
      cases ha
    rw [upd_ne ne]
    exact y.gg a ha
  hh := y.hh
  gh := fun a u e => by
    by_cases ne : a = p
    · subst ne
      rw [upd_same] at e
      rw [← e]
      exact .inl hp
    · rw [upd_ne ne] at e
      exact y.gh a u e
theorem Ext.set {G H G' H' : Hp} {p : Addr} {o : HO} (y : Ext G H G' H') (hn : H p = none) (gp : G' p = none) : Ext G H G' (upd H' p o) :=
  ⟨y.gg, fun a u e => by rw [upd_ne (ne_of_none e hn)]; exact y.hh a u e, y.gh.owned gp⟩

/-! ### bases, owned cells -/
/-- where one may come from a def's start (or within a locked loop), by what one may do -/
structure Bs where
  R : Hp → Hp → Prop
  own : Addr → Prop
  le : ∀ {G H}, R G H → Le G H
  ext : ∀ {G H G' H'}, R G H → Ext G H G' H' → R G' H'
  set : ∀ {G H p o}, own p → R G H → G p = none → R G (upd H p o)
  new : ∀ {G H p}, R G H → H p = none → own p
  pub : ∀ {G H p o}, own p → R G H → H p = some o → G p = none → R (upd G p o) H
def Bs.of (G0 H0 : Hp) : Bs where
  R := Ext G0 H0
  own := fun p => H0 p = none
  le := fun e => e.gh
  ext := fun e y => e.trans y
  set := fun h e g => e.set h g
  new := fun e h => e.hh.free h
  pub := fun h e hp _ => e.publish h hp
theorem upd_comm {H : Hp} {a b : Addr} {o u : HO} (h : a ≠ b) : upd (upd H a o) b u = upd (upd H b u) a o := by
  funext c
  unfold upd
  by_cases x : c = b
  · rw [if_pos x]
    by_cases y : c = a
    · exact absurd (y.symm.trans x) h
    · rw [if_neg y, if_pos x]
  · rw [if_neg x]
    by_cases y : c = a
    · rw [if_pos y, if_pos y]
    · rw [if_neg y, if_neg y, if_neg x]
/-- a dict locked -/
def Bs.lock (B : Bs) (d : Addr) (od : Obj) (kvs : List (Key × V)) : Bs where
  R := fun G H => H d = some (.frz od (.dK kvs)) ∧ (∀ w, G d = some w → w = .dK kvs) ∧ B.R G (upd H d (.dK kvs))
  own := fun p => B.own p ∧ p ≠ d
  le := fun {G H} ⟨h1, h2, h3⟩ a u e => by
    by_cases x : a = d
    · subst x
      rw [h2 u e]
      exact .inr ⟨kvs, od, rfl, h1⟩
    · have z := B.le h3 a u e
      rw [upd_ne x] at z
      exact z
  ext := fun {G H G' H'} ⟨h1, h2, h3⟩ y => by
    have gd : G' d = G d := y.gg d (by rw [h1]; rfl)
    refine ⟨y.hh d _ h1, fun w e => h2 w (gd.symm.trans e), B.ext h3 ⟨fun a ha => ?_, fun a o e => ?_, fun a u e => ?_⟩⟩
    · by_cases x : a = d
      · rw [x]
        exact gd
      · rw [upd_ne x] at ha
        exact y.gg a ha
    · by_cases x : a = d
      · subst x
        rw [upd_same] at e ⊢
        exact e
      · rw [upd_ne x] at e ⊢
        exact y.hh a o e
    · by_cases x : a = d
      · subst x
        rw [upd_same, h2 u (gd.symm.trans e)]
        exact .inl rfl
      · rw [upd_ne x]
        exact y.gh a u e
  set := fun {G H p o} hp ⟨h1, h2, h3⟩ g => by
    refine ⟨by rw [upd_ne hp.2.symm]; exact h1, h2, ?_⟩
    rw [upd_comm hp.2]
    exact B.set hp.1 h3 g
  new := fun {G H p} ⟨h1, h2, h3⟩ hp => by
    have ne : p ≠ d := (ne_of_none h1 hp).symm
    exact ⟨B.new h3 (by rw [upd_ne ne]; exact hp), ne⟩
  pub := fun {G H p o} hp ⟨h1, h2, h3⟩ hh g => by
    refine ⟨h1, fun w e => h2 w (by rw [upd_ne hp.2.symm] at e; exact e), B.pub hp.1 h3 (by rw [upd_ne hp.2]; exact hh) g⟩
def Own (B : Bs) (O : List (Addr × HO)) (G H : Hp) : Prop := (O.map (·.1)).Nodup ∧ ∀ po ∈ O, B.own po.1 ∧ G po.1 = none ∧ H po.1 = some po.2
theorem Own.nil {B : Bs} {G H : Hp} : Own B [] G H := ⟨List.nodup_nil, fun _ h => nomatch h⟩
theorem Own.ext {B : Bs} {O : List (Addr × HO)} {G H G' H' : Hp} (w : Own B O G H) (y : Ext G H G' H') : Own B O G' H' :=
  ⟨w.1, fun po h => let ⟨a, b, c⟩ := w.2 po h; ⟨a, y.own b c⟩⟩
theorem Own.push {B : Bs} {O : List (Addr × HO)} {G H : Hp} {p : Addr} {o : HO} (w : Own B O G H) (e : B.R G H) (h : H p = none) : Own B ((p, o) :: O) G (upd H p o) := by
  refine ⟨List.nodup_cons.mpr ⟨fun m => ?_, w.1⟩, fun po hm => ?_⟩
  · obtain ⟨q, hq, e2⟩ := List.mem_map.mp m
    have z := (w.2 q hq).2.2
    rw [e2, h] at z
    cases z
  · rcases List.mem_cons.mp hm with rfl | hm
    · exact ⟨B.new e h, (B.le e).free h, upd_same⟩
    · obtain ⟨a, b, c⟩ := w.2 po hm
      exact ⟨a, b, by rw [upd_ne (ne_of_none c h)]; exact c⟩
theorem Own.at_ {B : Bs} {O : List (Addr × HO)} {G H : Hp} {i : Nat} {p : Addr} {o : HO} (w : Own B O G H) (h : O[i]? = some (p, o)) : B.own p ∧ G p = none ∧ H p = some o := w.2 _ (List.mem_of_getElem? h)
theorem Own.set {B : Bs} {O : List (Addr × HO)} {G H : Hp} {i : Nat} {p : Addr} {o o' : HO} (w : Own B O G H) (h : O[i]? = some (p, o)) : Own B (O.set i (p, o')) G (upd H p o') := by
  obtain ⟨hi, e⟩ := List.getElem?_eq_some_iff.mp h
  have em : (O.set i (p, o')).map (·.1) = O.map (·.1) := by
    apply List.ext_getElem?
    intro j
    rw [List.getElem?_map, List.getElem?_map, List.getElem?_set]
    split
    · rename_i q
      subst q
      rw [h]
      rfl
    · rfl
  refine ⟨by rw [em]; exact w.1, fun po hm => ?_⟩
  obtain ⟨j, hj, ej⟩ := List.getElem_of_mem hm
  have hj' : j < O.length := by rw [List.length_set] at hj; exact hj
  rw [List.getElem_set] at ej
  by_cases q : i = j
  · rw [if_pos q] at ej
    subst ej
    obtain ⟨a, b, _⟩ := w.at_ h
    exact ⟨a, b, upd_same⟩
  · rw [if_neg q] at ej
    subst ej
    obtain ⟨a, b, c⟩ := w.2 O[j] (List.getElem_mem hj')
    have ne : (O[j]).1 ≠ p := fun z => by
      have h1 : (O.map (·.1))[j]? = some p := by rw [List.getElem?_map, List.getElem?_eq_getElem hj', ← z]; rfl
      have h2 : (O.map (·.1))[i]? = some p := by rw [List.getElem?_map, h]; rfl
      exact q (nd_ix w.1 h2 h1)
    exact ⟨a, b, by rw [upd_ne ne]; exact c⟩

/-! ### facts -/
structure Asr where
  p : Hp → Prop
  mono : ∀ {G G' : Hp}, Le G G' → p G → p G'
def Asr.tt : Asr := ⟨fun _ => True, fun _ _ => trivial⟩
def Asr.and (M N : Asr) : Asr := ⟨fun G => M.p G ∧ N.p G, fun h x => ⟨M.mono h x.1, N.mono h x.2⟩⟩
/-- a reading of values -/
structure Ty (α : Type) where
  r : Hp → V → α → Prop
  ok : V → α → Prop
  of : ∀ {G v x}, r G v x → ok v x
  mono : ∀ {G G' v x}, Le G G' → r G v x → r G' v x
def isA {α : Type} (t : Ty α) (v : V) (x : α) : Asr := ⟨fun G => t.r G v x, t.mono⟩
def Asr.is {α : Type} (M : Asr) (t : Ty α) (v : V) (x : α) : Asr := M.and (isA t v x)
def aty {α : Type} (f : α → V) : Ty α := ⟨fun _ v x => v = f x, fun v x => v = f x, id, fun _ h => h⟩
abbrev tInt : Ty Int := aty V.int
abbrev tBool : Ty Bool := aty V.bl
abbrev tStr : Ty Str := aty V.str
abbrev tNon : Ty Unit := aty fun _ => V.non
def oV {α : Type} (f : α → V) : Option α → V
  | none => .non
  | some x => f x
abbrev tOpt {α : Type} (f : α → V) : Ty (Option α) := aty (oV f)
inductive Fa {α β : Type} (R : α → β → Prop) : List α → List β → Prop
  | nil : Fa R [] []
  | cons {a b as bs} : R a b → Fa R as bs → Fa R (a :: as) (b :: bs)
theorem Fa.imp {α β : Type} {R S : α → β → Prop} (h : ∀ a b, R a b → S a b) : ∀ {as bs}, Fa R as bs → Fa S as bs
  | _, _, .nil => .nil
  | _, _, .cons x y => .cons (h _ _ x) (y.imp h)
theorem Fa.length {α β : Type} {R : α → β → Prop} : ∀ {as bs}, Fa R as bs → as.length = bs.length
  | _, _, .nil => rfl
  | _, _, .cons _ y => by rw [List.length_cons, List.length_cons, y.length]
theorem Fa.get {α β : Type} {R : α → β → Prop} : ∀ {as bs} {i : Nat} {a : α}, Fa R as bs → as[i]? = some a → ∃ b, bs[i]? = some b ∧ R a b
  | _, _, _, _, .nil, e => by simp at e
  | _, _, 0, a, .cons r _, e => by simp at e; subst e; exact ⟨_, rfl, r⟩
  | _, _, i + 1, a, .cons _ t, e => by simpa using Fa.get (i := i) t (by simpa using e)
theorem Fa.get' {α β : Type} {R : α → β → Prop} : ∀ {as bs} {i : Nat} {b : β}, Fa R as bs → bs[i]? = some b → ∃ a, as[i]? = some a ∧ R a b
  | _, _, _, _, .nil, e => by simp at e
  | _, _, 0, a, .cons r _, e => by simp at e; subst e; exact ⟨_, rfl, r⟩
  | _, _, i + 1, a, .cons _ t, e => by simpa using Fa.get' (i := i) t (by simpa using e)
theorem Fa.append {α β : Type} {R : α → β → Prop} : ∀ {as bs cs ds}, Fa R as bs → Fa R cs ds → Fa R (as ++ cs) (bs ++ ds)
  | _, _, _, _, .nil, h => h
  | _, _, _, _, .cons x y, h => .cons x (y.append h)
theorem Fa.atoms {α : Type} {f : α → V} : ∀ {vs : List V} {xs : List α}, Fa (fun v x => v = f x) vs xs → vs = xs.map f
  | _, _, .nil => rfl
  | _, _, .cons x y => by rw [List.map_cons, x, y.atoms]
theorem Fa.of_atoms {α : Type} {f : α → V} : ∀ (xs : List α), Fa (fun v x => v = f x) (xs.map f) xs
  | [] => .nil
  | x :: r => .cons rfl (Fa.of_atoms r)
/-! seqs, pairs, dicts, instances -/
section
variable (K : PySem.W.Frag) {α β γ δ : Type}
def tLst (t : Ty α) : Ty (List α) where
  r := fun G v xs => ∃ a vs, v = .ref a ∧ SqL K G a vs ∧ Fa (t.r G) vs xs ∧ vs.length ≤ sizeLine
  ok := fun v _ => ∃ a, v = .ref a
  of := fun ⟨a, _, e, _⟩ => ⟨a, e⟩
  mono := fun x ⟨a, vs, e, h, g, z⟩ => ⟨a, vs, e, x.sqL h, g.imp fun _ _ => t.mono x, z⟩
def tTup (t : Ty α) : Ty (List α) where
  r := fun G v xs => ∃ a vs, v = .ref a ∧ SqT K G a vs ∧ Fa (t.r G) vs xs ∧ vs.length ≤ sizeLine
  ok := fun v _ => ∃ a, v = .ref a
  of := fun ⟨a, _, e, _⟩ => ⟨a, e⟩
  mono := fun x ⟨a, vs, e, h, g, z⟩ => ⟨a, vs, e, x.sqT h, g.imp fun _ _ => t.mono x, z⟩
def tPair (t : Ty α) (u : Ty β) : Ty (α × β) where
  r := fun G v x => ∃ a v1 v2, v = .ref a ∧ SqT K G a [v1, v2] ∧ t.r G v1 x.1 ∧ u.r G v2 x.2
  ok := fun v _ => ∃ a, v = .ref a
  of := fun ⟨a, _, _, e, _⟩ => ⟨a, e⟩
  mono := fun x ⟨a, v1, v2, e, h, g1, g2⟩ => ⟨a, v1, v2, e, x.sqT h, t.mono x g1, u.mono x g2⟩
def tTrip (t : Ty α) (u : Ty β) (w : Ty γ) : Ty (α × β × γ) where
  r := fun G v x => ∃ a v1 v2 v3, v = .ref a ∧ SqT K G a [v1, v2, v3] ∧ t.r G v1 x.1 ∧ u.r G v2 x.2.1 ∧ w.r G v3 x.2.2
  ok := fun v _ => ∃ a, v = .ref a
  of := fun ⟨a, _, _, _, e, _⟩ => ⟨a, e⟩
  mono := fun x ⟨a, v1, v2, v3, e, h, g1, g2, g3⟩ => ⟨a, v1, v2, v3, e, x.sqT h, t.mono x g1, u.mono x g2, w.mono x g3⟩
def tQuad (t : Ty α) (u : Ty β) (w : Ty γ) (z : Ty δ) : Ty (α × β × γ × δ) where
  r := fun G v x => ∃ a v1 v2 v3 v4, v = .ref a ∧ SqT K G a [v1, v2, v3, v4] ∧ t.r G v1 x.1 ∧ u.r G v2 x.2.1 ∧ w.r G v3 x.2.2.1 ∧ z.r G v4 x.2.2.2
  ok := fun v _ => ∃ a, v = .ref a
  of := fun ⟨a, _, _, _, _, e, _⟩ => ⟨a, e⟩
  mono := fun x ⟨a, v1, v2, v3, v4, e, h, g1, g2, g3, g4⟩ => ⟨a, v1, v2, v3, v4, e, x.sqT h, t.mono x g1, u.mono x g2, w.mono x g3, z.mono x g4⟩
end
def kvR {α : Type} (t : Ty α) (G : Hp) (kv : Key × V) (kx : Str × α) : Prop := kv.1 = .inr kx.1 ∧ t.r G kv.2 kx.2
def tDct {α : Type} (t : Ty α) : Ty (List (Str × α)) where
  r := fun G v xs => ∃ a kvs, v = .ref a ∧ Rd G a (.dK kvs) ∧ Fa (kvR t G) kvs xs ∧ kvs.length ≤ sizeLine
  ok := fun v _ => ∃ a, v = .ref a
  of := fun ⟨a, _, e, _⟩ => ⟨a, e⟩
  mono := fun x ⟨a, kvs, e, h, g, z⟩ => ⟨a, kvs, e, x.rd h, g.imp fun _ _ z => ⟨z.1, t.mono x z.2⟩, z⟩
/-- the facts of a dict's values, of a list's items -/
def Asr.kvs {α : Type} (M : Asr) (t : Ty α) (kvs : List (Key × V)) (xs : List (Str × α)) : Asr := M.and ⟨fun G => Fa (kvR t G) kvs xs, fun x g => g.imp fun _ _ z => ⟨z.1, t.mono x z.2⟩⟩
def Asr.its {α : Type} (M : Asr) (t : Ty α) (vs : List V) (xs : List α) : Asr := M.and ⟨fun G => Fa (t.r G) vs xs, fun x g => g.imp fun _ _ => t.mono x⟩

/-! ### a value's reading is found among the facts -/
class Has (M : Asr) (v : V) {α : outParam Type} (t : outParam (Ty α)) (x : outParam α) : Prop where
  get : ∀ {G : Hp}, M.p G → t.r G v x
instance (priority := 2000) {M : Asr} {i : Int} : Has M (V.int i) tInt i := ⟨fun _ => rfl⟩
instance (priority := 2000) {M : Asr} {i : Str} : Has M (V.str i) tStr i := ⟨fun _ => rfl⟩
instance (priority := 2000) {M : Asr} {i : Bool} : Has M (V.bl i) tBool i := ⟨fun _ => rfl⟩
instance (priority := 1500) {M : Asr} {α : Type} {t : Ty α} {v : V} {x : α} : Has (M.is t v x) v t x := ⟨fun m => m.2⟩
instance (priority := 500) {M : Asr} {α β : Type} {t : Ty α} {v w : V} {x : α} {u : Ty β} {y : β} [h : Has M v t x] : Has (M.is u w y) v t x := ⟨fun m => h.get m.1⟩
instance (priority := 500) {M N : Asr} {α : Type} {t : Ty α} {v : V} {x : α} [h : Has M v t x] : Has (M.and N) v t x := ⟨fun m => h.get m.1⟩
instance (priority := 500) {M : Asr} {α β : Type} {t : Ty α} {v : V} {x : α} {u : Ty β} {kvs ys} [h : Has M v t x] : Has (M.kvs u kvs ys) v t x := ⟨fun m => h.get m.1⟩
instance (priority := 500) {M : Asr} {α β : Type} {t : Ty α} {v : V} {x : α} {u : Ty β} {kvs ys} [h : Has M v t x] : Has (M.its u kvs ys) v t x := ⟨fun m => h.get m.1⟩

/-! ### what evaluates to what -/
/-- the two heaps, and the owned objects -/
structure Wl (O : List (Addr × HO)) (G H : Hp) : Prop where
  le : Le G H
  ow : ∀ po ∈ O, G po.1 = none ∧ H po.1 = some po.2
theorem Wl.ext {O : List (Addr × HO)} {G H G' H' : Hp} (x : Wl O G H) (y : Ext G H G' H') : Wl O G' H' := ⟨y.gh, fun po h => y.own (x.ow po h).1 (x.ow po h).2⟩
theorem Wl.at_ {O : List (Addr × HO)} {G H : Hp} {i : Nat} {p : Addr} {o : HO} (x : Wl O G H) (h : O[i]? = some (p, o)) : H p = some o := (x.ow _ (List.mem_of_getElem? h)).2
theorem Own.wl {B : Bs} {O : List (Addr × HO)} {G H : Hp} (w : Own B O G H) (e : B.R G H) : Wl O G H := ⟨B.le e, fun po h => (w.2 po h).2⟩
theorem Wl.nil {G H : Hp} (l : Le G H) : Wl [] G H := ⟨l, fun _ h => nomatch h⟩

section
variable (M : Asr) (O : List (Addr × HO)) (σ : L2.St)
def Ev {α : Type} (t : Ty α) (te : TE) (x : α) : Prop := ∀ G H, M.p G → Wl O G H → ∀ Q : VK, (∀ v G' H', Ext G H G' H' → t.r G' v x → Q v H') → te σ H Q
def EvR {α : Type} (t : Ty α) (te : TE) (R : α → Prop) : Prop := ∀ G H, M.p G → Wl O G H → ∀ Q : VK, (∀ v x G' H', Ext G H G' H' → R x → t.r G' v x → Q v H') → te σ H Q
def EvT (tt : TT) (b : Bool) : Prop := ∀ G H, M.p G → Wl O G H → ∀ Q : Bool → Hp → Prop, (∀ G' H', Ext G H G' H' → Q b H') → tt σ H Q
end
/-- arguments, one after the other -/
structure TyA (ι : Type) where
  r : Hp → List V → ι → Prop
  mono : ∀ {G G' vs i}, Le G G' → r G vs i → r G' vs i
def aNil : TyA Unit := ⟨fun _ vs _ => vs = [], fun _ h => h⟩
def aCons {α ι : Type} (t : Ty α) (A : TyA ι) : TyA (α × ι) := ⟨fun G vs i => ∃ v vs', vs = v :: vs' ∧ t.r G v i.1 ∧ A.r G vs' i.2, fun x ⟨v, vs', e, h, g⟩ => ⟨v, vs', e, t.mono x h, A.mono x g⟩⟩
def EvA (M : Asr) (O : List (Addr × HO)) (σ : L2.St) {ι : Type} (A : TyA ι) (ta : TA) (i : ι) : Prop := ∀ G H, M.p G → Wl O G H → ∀ Q : List V → Hp → Prop, (∀ vs G' H', Ext G H G' H' → A.r G' vs i → Q vs H') → ta σ H Q

section
variable {M : Asr} {O : List (Addr × HO)} {σ : L2.St} {α β γ ι : Type} {t : Ty α} {u : Ty β} {w : Ty γ} {te ta tb tc : TE} {x : α} {y : β} {z : γ}
theorem Ev.rel (h : Ev M O σ t te x) : EvR M O σ t te (fun y => y = x) := fun G H m l Q q => h G H m l Q fun v G' H' e r => q v x G' H' e rfl r
theorem ev_var {i : Nat} {v : V} (h : σ[i]? = some (some v) := by rfl) [hs : Has M v t x] : Ev M O σ t (tVar i) x := fun G H m l Q q => ⟨v, h, q v G H (.refl l.le) (hs.get m)⟩
theorem ev_c {v : V} (h : ∀ G, t.r G v x) : Ev M O σ t (tC v) x := fun G H m l Q q => q v G H (.refl l.le) (h G)
theorem ev_int {i : Int} : Ev M O σ tInt (tC (.int i)) i := ev_c fun _ => rfl
theorem ev_str {i : Str} : Ev M O σ tStr (tC (.str i)) i := ev_c fun _ => rfl
theorem ev_bl {i : Bool} : Ev M O σ tBool (tC (.bl i)) i := ev_c fun _ => rfl
theorem ev_is {x' : α} (h : Ev M O σ t te x) (e : x = x') : Ev M O σ t te x' := e ▸ h
theorem et_is {tt : TT} {b b' : Bool} (h : EvT M O σ tt b) (e : b = b') : EvT M O σ tt b' := e ▸ h
/-- a two-place operation -/
theorem ev_op2 {r : R2} {c : γ} (ha : Ev M O σ t ta x) (hb : Ev M O σ u tb y) (hr : ∀ G H v v' Q, Le G H → t.r G v x → u.r G v' y → (∀ v G' H', Ext G H G' H' → w.r G' v c → Q v H') → r v v' H Q) : Ev M O σ w (tOp r ta tb) c := fun G H m l Q q =>
  ha G H m l _ fun v G1 H1 e1 r1 => hb G1 H1 (M.mono (e1.le l.le) m) (l.ext e1) _ fun v' G2 H2 e2 r2 => hr G2 H2 v v' Q e2.gh (t.mono (e2.le e1.gh) r1) r2 fun z G3 H3 e3 r3 => q z G3 H3 ((e1.trans e2).trans e3) r3
/-- .. that leaves the heap and gives an atom -/
theorem ev_opA {r : R2} {f : γ → V} {c : γ} (ha : Ev M O σ t ta x) (hb : Ev M O σ u tb y) (hr : ∀ G H v v' Q, Le G H → t.r G v x → u.r G v' y → Q (f c) H → r v v' H Q) : Ev M O σ (aty f) (tOp r ta tb) c :=
  ev_op2 ha hb fun G H v v' Q l h1 h2 q => hr G H v v' Q l h1 h2 (q _ G H (.refl l) rfl)
theorem ea_nil : EvA M O σ aNil tNil () := fun G H m l Q q => q [] G H (.refl l.le) rfl
theorem ea_cons {A : TyA ι} {tr : TA} {i : ι} (h : Ev M O σ t ta x) (hr : EvA M O σ A tr i) : EvA M O σ (aCons t A) (tCons ta tr) (x, i) := fun G H m l Q q =>
  h G H m l _ fun v G1 H1 e1 r1 => hr G1 H1 (M.mono (e1.le l.le) m) (l.ext e1) _ fun vs G2 H2 e2 r2 => q _ G2 H2 (e1.trans e2) ⟨v, vs, rfl, t.mono (e2.le e1.gh) r1, r2⟩
/-- a call on values of one argument -/
theorem ev_cb1 {r : List V → Hp → VK → Prop} {c : γ} (ha : Ev M O σ t ta x) (hr : ∀ G H v Q, Le G H → t.r G v x → (∀ v G' H', Ext G H G' H' → w.r G' v c → Q v H') → r [v] H Q) : Ev M O σ w (tCB r (tCons ta tNil)) c := fun G H m l Q q =>
  ha G H m l _ fun v G1 H1 e1 r1 => hr G1 H1 v Q e1.gh r1 fun z G3 H3 e3 r3 => q z G3 H3 (e1.trans e3) r3
theorem ev_cbA {r : List V → Hp → VK → Prop} {f : γ → V} {c : γ} (ha : Ev M O σ t ta x) (hr : ∀ G H v Q, Le G H → t.r G v x → Q (f c) H → r [v] H Q) : Ev M O σ (aty f) (tCB r (tCons ta tNil)) c :=
  ev_cb1 ha fun G H v Q l h q => hr G H v Q l h (q _ G H (.refl l) rfl)
theorem ev_cb2 {r : List V → Hp → VK → Prop} {c : γ} (ha : Ev M O σ t ta x) (hb : Ev M O σ u tb y) (hr : ∀ G H v v' Q, Le G H → t.r G v x → u.r G v' y → (∀ v G' H', Ext G H G' H' → w.r G' v c → Q v H') → r [v, v'] H Q) : Ev M O σ w (tCB r (tCons ta (tCons tb tNil))) c := fun G H m l Q q =>
  ha G H m l _ fun v G1 H1 e1 r1 => hb G1 H1 (M.mono (e1.le l.le) m) (l.ext e1) _ fun v' G2 H2 e2 r2 => hr G2 H2 v v' Q e2.gh (t.mono (e2.le e1.gh) r1) r2 fun z G3 H3 e3 r3 => q z G3 H3 ((e1.trans e2).trans e3) r3
/-! tests -/
theorem et_test {b : Bool} (h : Ev M O σ tBool te b) : EvT M O σ (tTest te) b := fun G H m l Q q => h G H m l _ fun v G1 H1 e1 r1 => ⟨b, r1, q G1 H1 e1⟩
theorem et_B {b : Bool} (h : Ev M O σ tBool te b) : EvT M O σ (tB te) b := fun G H m l Q q => h G H m l _ fun v G1 H1 e1 r1 => ⟨b, r1, q G1 H1 e1⟩
variable {tt uu : TT}
theorem et_and {a b : Bool} (h1 : EvT M O σ tt a) (h2 : a = true → EvT M O σ uu b) : EvT M O σ (tAnd tt uu) (a && b) := fun G H m l Q q => h1 G H m l _ fun G1 H1 e1 => by
  cases a with
  | true =>
    show uu σ H1 Q
    exact h2 rfl G1 H1 (M.mono (e1.le l.le) m) (l.ext e1) Q fun G2 H2 e2 => q G2 H2 (e1.trans e2)
  | false =>
    show Q false H1
    exact q G1 H1 e1
theorem et_or {a b : Bool} (h1 : EvT M O σ tt a) (h2 : a = false → EvT M O σ uu b) : EvT M O σ (tOr tt uu) (a || b) := fun G H m l Q q => h1 G H m l _ fun G1 H1 e1 => by
  cases a with
  | true =>
    show Q true H1
    exact q G1 H1 e1
  | false =>
    show uu σ H1 Q
    exact h2 rfl G1 H1 (M.mono (e1.le l.le) m) (l.ext e1) Q fun G2 H2 e2 => q G2 H2 (e1.trans e2)
theorem et_not {a : Bool} (h1 : EvT M O σ tt a) : EvT M O σ (tNot tt) (!a) := fun G H m l Q q => h1 G H m l _ fun G1 H1 e1 => q G1 H1 e1
theorem et_yes : EvT M O σ tYes true := fun G H m l Q q => q G H (.refl l.le)
theorem ev_andV {a b : Bool} (h1 : Ev M O σ tBool ta a) (h2 : a = true → Ev M O σ tBool tb b) : Ev M O σ tBool (tAndV ta tb) (a && b) := fun G H m l Q q => h1 G H m l _ fun v G1 H1 e1 r1 => ⟨a, r1, by
  cases a with
  | true =>
    show tb σ H1 Q
    exact h2 rfl G1 H1 (M.mono (e1.le l.le) m) (l.ext e1) Q fun v G2 H2 e2 => q v G2 H2 (e1.trans e2)
  | false =>
    show Q (.bl false) H1
    exact q _ G1 H1 e1 rfl⟩
theorem ev_orV {a b : Bool} (h1 : Ev M O σ tBool ta a) (h2 : a = false → Ev M O σ tBool tb b) : Ev M O σ tBool (tOrV ta tb) (a || b) := fun G H m l Q q => h1 G H m l _ fun v G1 H1 e1 r1 => ⟨a, r1, by
  cases a with
  | true =>
    show Q (.bl true) H1
    exact q _ G1 H1 e1 rfl
  | false =>
    show tb σ H1 Q
    exact h2 rfl G1 H1 (M.mono (e1.le l.le) m) (l.ext e1) Q fun v G2 H2 e2 => q v G2 H2 (e1.trans e2)⟩
theorem ev_notV {a : Bool} (h1 : Ev M O σ tBool ta a) : Ev M O σ tBool (tNotV ta) (!a) := fun G H m l Q q => h1 G H m l _ fun v G1 H1 e1 r1 => ⟨a, r1, q _ G1 H1 e1 rfl⟩
theorem ev_if {b : Bool} (h : EvT M O σ tt b) (h1 : b = true → Ev M O σ t ta x) (h2 : b = false → Ev M O σ t tb x) : Ev M O σ t (tIf tt ta tb) x := fun G H m l Q q => h G H m l _ fun G1 H1 e1 => by
  cases b with
  | true =>
    show ta σ H1 Q
    exact h1 rfl G1 H1 (M.mono (e1.le l.le) m) (l.ext e1) Q fun v G2 H2 e2 => q v G2 H2 (e1.trans e2)
  | false =>
    show tb σ H1 Q
    exact h2 rfl G1 H1 (M.mono (e1.le l.le) m) (l.ext e1) Q fun v G2 H2 e2 => q v G2 H2 (e1.trans e2)
end

/-! ### promises -/
/-- a def's promise: arguments by A, what is asked of them, the answer's reading and relation -/
def SpR {ι β : Type} (A : TyA ι) (pre : ι → Prop) (u : Ty β) (R : ι → β → Prop) : Sp := fun vs H Q _ => ∃ G i, Le G H ∧ A.r G vs i ∧ pre i ∧ ∀ v y G' H', Ext G H G' H' → R i y → u.r G' v y → Q v H'
abbrev SpF {ι β : Type} (A : TyA ι) (pre : ι → Prop) (u : Ty β) (f : ι → β) : Sp := SpR A pre u fun i y => y = f i
section
variable {M : Asr} {O : List (Addr × HO)} {σ : L2.St} {β ι : Type} {u : Ty β} {A : TyA ι} {pre : ι → Prop} {R : ι → β → Prop} {f : ι → β} {ta : TA} {i : ι} {E : XK}
theorem evr_call (h : EvA M O σ A ta i) (hp : pre i) : EvR M O σ u (tCall (SpR A pre u R) [] E ta) (R i) := fun G H m l Q q => h G H m l _ fun vs G1 H1 e1 r1 => by
  show SpR A pre u R (vs ++ []) H1 Q E
  rw [List.append_nil]
  exact ⟨G1, i, e1.gh, r1, hp, fun v y G2 H2 e2 hR r2 => q v y G2 H2 (e1.trans e2) hR r2⟩
theorem ev_call (h : EvA M O σ A ta i) (hp : pre i) : Ev M O σ u (tCall (SpF A pre u f) [] E ta) (f i) := fun G H m l Q q => evr_call (R := fun i y => y = f i) h hp G H m l Q fun v x G' H' e hx r => q v G' H' e (hx ▸ r)
end

/-! ### statements -/
def St (B : Bs) (M : Asr) (O : List (Addr × HO)) (ts : TS) (D : Ends) (σ : L2.St) : Prop := ∀ G H, M.p G → B.R G H → Own B O G H → ts D σ H
/-- what is known at some place, as a wish -/
def At (B : Bs) (M : Asr) (O : List (Addr × HO)) (H : Hp) : Prop := ∃ G, M.p G ∧ B.R G H ∧ Own B O G H
def RetOk (B : Bs) {β : Type} (u : Ty β) (R : β → Prop) (D : Ends) : Prop := ∀ v y G' H', B.R G' H' → R y → u.r G' v y → D.rt v H'
/-- what a set of facts holds -/
class Sub (M N : Asr) : Prop where
  sub : ∀ {G : Hp}, M.p G → N.p G
instance (priority := 2000) {M : Asr} : Sub M M := ⟨id⟩
instance (priority := 500) {M N : Asr} {α : Type} {t : Ty α} {v : V} {x : α} [h : Sub M N] : Sub (M.is t v x) N := ⟨fun m => h.sub m.1⟩
instance (priority := 500) {M N L : Asr} [h : Sub M N] : Sub (M.and L) N := ⟨fun m => h.sub m.1⟩
instance (priority := 400) {M L : Asr} : Sub (M.and L) L := ⟨fun m => m.2⟩
instance (priority := 500) {M N : Asr} {α : Type} {t : Ty α} {kvs xs} [h : Sub M N] : Sub (M.kvs t kvs xs) N := ⟨fun m => h.sub m.1⟩
instance (priority := 500) {M N : Asr} {α : Type} {t : Ty α} {kvs xs} [h : Sub M N] : Sub (M.its t kvs xs) N := ⟨fun m => h.sub m.1⟩
section
variable {B : Bs} {M : Asr} {O : List (Addr × HO)} {D : Ends} {σ : L2.St} {α β γ : Type} {t : Ty α} {u : Ty β} {te ta tb : TE} {x : α} {tz tu tw : TS} {i : Nat} {R : β → Prop}
theorem st_start {G H : Hp} {ts : TS} (h : St (Bs.of G H) M [] ts D σ) (m : M.p G) (l : Le G H) : ts D σ H := h G H m (.refl l) .nil
theorem st_ret (k : RetOk B u R D) (h : EvR M O σ u te R) : St B M O (tSeq (tRet te) tz) D σ := fun G H m e w => h G H m (w.wl e) _ fun v y G1 H1 e1 hR r => k v y G1 H1 (B.ext e e1) hR r
theorem st_retF {y : β} (k : RetOk B u R D) (h : Ev M O σ u te y) (hR : R y := by first | rfl | trivial) : St B M O (tSeq (tRet te) tz) D σ := fun G H m e w => h G H m (w.wl e) _ fun v G1 H1 e1 r => k v y G1 H1 (B.ext e e1) hR r
/-- x = e -/
theorem st_asgR {R : α → Prop} (h : EvR M O σ t te R) (k : ∀ v x, R x → t.ok v x → St B (M.is t v x) O tz D (σ.set i (some v))) : St B M O (tSeq (tAsg te (gName i)) tz) D σ := fun G H m e w =>
  h G H m (w.wl e) _ fun v x G1 H1 e1 hR r => k v x hR (t.of r) G1 H1 ⟨M.mono (e1.le (B.le e)) m, r⟩ (B.ext e e1) (w.ext e1)
theorem st_asg (h : Ev M O σ t te x) (k : ∀ v, t.ok v x → St B (M.is t v x) O tz D (σ.set i (some v))) : St B M O (tSeq (tAsg te (gName i)) tz) D σ := fun G H m e w =>
  h G H m (w.wl e) _ fun v G1 H1 e1 r => k v (t.of r) G1 H1 ⟨M.mono (e1.le (B.le e)) m, r⟩ (B.ext e e1) (w.ext e1)
theorem st_asgA {f : α → V} (h : Ev M O σ (aty f) te x) (k : St B M O tz D (σ.set i (some (f x)))) : St B M O (tSeq (tAsg te (gName i)) tz) D σ := fun G H m e w =>
  h G H m (w.wl e) _ fun v G1 H1 e1 r => by
    have r2 : v = f x := r
    subst r2
    exact k G1 H1 (M.mono (e1.le (B.le e)) m) (B.ext e e1) (w.ext e1)
theorem st_drop (h : Ev M O σ t te x) (k : St B M O tz D σ) : St B M O (tSeq (tDrop te) tz) D σ := fun G H m e w =>
  h G H m (w.wl e) _ fun v G1 H1 e1 r => k G1 H1 (M.mono (e1.le (B.le e)) m) (B.ext e e1) (w.ext e1)
theorem st_dropR {R : α → Prop} (h : EvR M O σ t te R) (k : ∀ x, R x → St B M O tz D σ) : St B M O (tSeq (tDrop te) tz) D σ := fun G H m e w =>
  h G H m (w.wl e) _ fun v x G1 H1 e1 hR r => k x hR G1 H1 (M.mono (e1.le (B.le e)) m) (B.ext e e1) (w.ext e1)
theorem st_if {b : Bool} {tt : TT} (h : EvT M O σ tt b) (h1 : b = true → St B M O tu { D with nx := tz D } σ) (h2 : b = false → St B M O tw { D with nx := tz D } σ) : St B M O (tSeq (tIfS tt tu tw) tz) D σ := fun G H m e w =>
  h G H m (w.wl e) _ fun G1 H1 e1 => by
    cases b with
    | true => exact h1 rfl G1 H1 (M.mono (e1.le (B.le e)) m) (B.ext e e1) (w.ext e1)
    | false => exact h2 rfl G1 H1 (M.mono (e1.le (B.le e)) m) (B.ext e e1) (w.ext e1)
/-- an if whose outcome is known -/
theorem st_ifT {tt : TT} (h : EvT M O σ tt true) (h1 : St B M O tu { D with nx := tz D } σ) : St B M O (tSeq (tIfS tt tu tw) tz) D σ := st_if h (fun _ => h1) (fun z => nomatch z)
theorem st_ifF {tt : TT} (h : EvT M O σ tt false) (h1 : St B M O tw { D with nx := tz D } σ) : St B M O (tSeq (tIfS tt tu tw) tz) D σ := st_if h (fun z => nomatch z) (fun _ => h1)
/-- a block's end -/
theorem st_thru (k : St B M O tz D σ) : St B M O tNext { D with nx := tz D } σ := k
theorem st_end (k : ∀ G H, M.p G → B.R G H → Own B O G H → D.nx σ H) : St B M O tNext D σ := k
/-- facts may be forgotten -/
theorem St.weak {M' : Asr} {ts : TS} (h : St B M' O ts D σ) (k : ∀ G, M.p G → M'.p G) : St B M O ts D σ := fun G H m e w => h G H (k G m) e w
/-- an owned object is made visible -/
theorem st_pub {ts : TS} {p : Addr} {o : HO} (ht : ∀ G, M.p G → G p = none → Le G (upd G p o) → t.r (upd G p o) (.ref p) x) (h : St B (M.is t (.ref p) x) O ts D σ) : St B M ((p, o) :: O) ts D σ := fun G H m e w => by
  obtain ⟨a, b, c⟩ := w.2 (p, o) List.mem_cons_self
  have lg : Le G (upd G p o) := (Le.refl G).owned b
  refine h (upd G p o) H ⟨M.mono lg m, ht G m b lg⟩ (B.pub a e c b) ⟨(List.nodup_cons.mp w.1).2, fun po hm => ?_⟩
  obtain ⟨a2, b2, c2⟩ := w.2 po (List.mem_cons_of_mem _ hm)
  have ne : po.1 ≠ p := fun z => (List.nodup_cons.mp w.1).1 (List.mem_map.mpr ⟨po, hm, z⟩)
  exact ⟨a2, by rw [upd_ne ne]; exact b2, c2⟩
/-- owned objects in another order -/
theorem st_swap {ts : TS} {O' : List (Addr × HO)} (hp : O.Perm O') (h : St B M O' ts D σ) : St B M O ts D σ := fun G H m e w =>
  h G H m e ⟨(hp.map (·.1)).nodup_iff.mp w.1, fun po hm => w.2 po (hp.mem_iff.mpr hm)⟩
/-- an owned object is forgotten -/
theorem st_lose {ts : TS} {po : Addr × HO} (h : St B M O ts D σ) : St B M (po :: O) ts D σ := fun G H m e w => h G H m e ⟨(List.nodup_cons.mp w.1).2, fun q hm => w.2 q (List.mem_cons_of_mem _ hm)⟩
end
end G3
set_option maxRecDepth 100000
set_option maxHeartbeats 4000000
/-! G1: rules by values, and what they evaluate to. -/
namespace G3
open PySem L2

/-- the builtins that the text leaves alone -/
structure Bi (mg : Str → Option Value) : Prop where
  len : mg "len" = none
  isi : mg "isinstance" = none
  list : mg "list" = none
  tuple : mg "tuple" = none
  dict : mg "dict" = none
  str : mg "str" = none
  int : mg "int" = none
  bool : mg "bool" = none
  enum : mg "enumerate" = none
  range : mg "range" = none
  max : mg "max" = none
  min : mg "min" = none
  sum : mg "sum" = none
  all : mg "all" = none

/-! ### calls by values -/
def rLenX (K : PySem.W.Frag) : List V → Hp → VK → Prop := fun xs H Q => ∃ p, xs = [.ref p] ∧ ((∃ ys, SqL K H p ys ∧ Q (.int ys.length) H) ∨ (∃ ys, SqT K H p ys ∧ Q (.int ys.length) H) ∨ ∃ kvs, Rd H p (.dK kvs) ∧ Q (.int kvs.length) H)
def rLenS : List V → Hp → VK → Prop := fun xs H Q => ∃ z : Str, xs = [.str z] ∧ z.length ≤ sizeLine ∧ Q (.int z.length) H
def rList (K : PySem.W.Frag) : List V → Hp → VK → Prop := fun xs H Q => ∃ p ys, xs = [.ref p] ∧ (SqL K H p ys ∨ SqT K H p ys) ∧ ∀ l, H l = none → Q (.ref l) (upd H l (.lst ys))
def rTuple (K : PySem.W.Frag) : List V → Hp → VK → Prop := fun xs H Q => ∃ p ys, xs = [.ref p] ∧ ((SqL K H p ys ∧ ∀ l, H l = none → Q (.ref l) (upd H l (.tup ys))) ∨ (SqT K H p ys ∧ Q (.ref p) H))
def rDictD : List V → Hp → VK → Prop := fun xs H Q => ∃ (a : Addr) (kvs : List (Key × V)), xs = [.ref a] ∧ Rd H a (.dK kvs) ∧ ∀ p, H p = none → Q (.ref p) (upd H p (.dK kvs))
def rMax2 : List V → Hp → VK → Prop := fun xs H Q => ∃ i j, xs = [.int i, .int j] ∧ Q (.int (if j > i then j else i)) H
def rMin2 : List V → Hp → VK → Prop := fun xs H Q => ∃ i j, xs = [.int i, .int j] ∧ Q (.int (if j < i then j else i)) H
def rIntB : List V → Hp → VK → Prop := fun xs H Q => ∃ k, xs = [.bl k] ∧ Q (.int (if k then 1 else 0)) H
section
variable {X : Cx}
theorem c_len : CallR X (.builtin "len") (rLenX X.K) := by
  intro pins s σ H xs us Q I r h
  obtain ⟨p, rfl, h | h | ⟨kvs, hd, q⟩⟩ := h
  · obtain ⟨ys, h1, q⟩ := h
    exact call_len_seq pins s σ H _ us Q I r ⟨p, ys, rfl, .inl h1, q⟩
  · obtain ⟨ys, h1, q⟩ := h
    exact call_len_seq pins s σ H _ us Q I r ⟨p, ys, rfl, .inr h1, q⟩
  · obtain ⟨u, rfl, ru⟩ := vals1 r
    cases ru
    exact d_len I hd fun t s' I' => ⟨.int kvs.length, H, I', ⟨t, rfl⟩, q⟩
theorem c_lenS : CallR X (.builtin "len") rLenS := call_len_str
theorem c_list : CallR X (.type "list") (rList X.K) := call_list_of
theorem c_tuple : CallR X (.type "tuple") (rTuple X.K) := call_tuple_of
theorem c_dictD : CallR X (.type "dict") rDictD := call_dictD
theorem c_max2 (hc : X.calm = true) : CallR X (.builtin "max") rMax2 := call_max2 hc
theorem c_min2 (hc : X.calm = true) : CallR X (.builtin "min") rMin2 := call_min2 hc
theorem c_intB : CallR X (.type "int") rIntB := by
  intro pins s σ H xs us Q I r h
  obtain ⟨k, rfl, q⟩ := h
  exact call_int1 pins s σ H _ us Q I r (.inr ⟨k, rfl, q⟩)
end

section
variable {M : Asr} {O : List (Addr × HO)} {σ : L2.St} {K : PySem.W.Frag} {α β γ ι : Type} {t : Ty α} {u : Ty β} {w : Ty γ} {te ta tb tc td ty : TE} {x : α} {y : β}
/-! ### ints -/
theorem ev_add {i j : Int} (ha : Ev M O σ tInt ta i) (hb : Ev M O σ tInt tb j) : Ev M O σ tInt (tOp (rI0 fun i j => .int (i + j)) ta tb) (i + j) :=
  ev_opA ha hb fun G H v v' Q l h1 h2 q => ⟨i, j, h1, h2, q⟩
theorem ev_sub {i j : Int} (ha : Ev M O σ tInt ta i) (hb : Ev M O σ tInt tb j) : Ev M O σ tInt (tOp (rI0 fun i j => .int (i - j)) ta tb) (i - j) :=
  ev_opA ha hb fun G H v v' Q l h1 h2 q => ⟨i, j, h1, h2, q⟩
theorem ev_mul {i j : Int} (ha : Ev M O σ tInt ta i) (hb : Ev M O σ tInt tb j) (hc : CMul i j) : Ev M O σ tInt (tOp (rI CMul fun i j => .int (i * j)) ta tb) (i * j) :=
  ev_opA ha hb fun G H v v' Q l h1 h2 q => ⟨i, j, h1, h2, hc, q⟩
theorem ev_mod {i j : Int} (ha : Ev M O σ tInt ta i) (hb : Ev M O σ tInt tb j) (hc : 0 < j) : Ev M O σ tInt (tOp (rI (fun _ j => 0 < j) fun i j => .int (i % j)) ta tb) (i % j) :=
  ev_opA ha hb fun G H v v' Q l h1 h2 q => ⟨i, j, h1, h2, hc, q⟩
theorem ev_fdiv {i j : Int} (ha : Ev M O σ tInt ta i) (hb : Ev M O σ tInt tb j) (hc : CDiv i j) : Ev M O σ tInt (tOp (rI CDiv fun i j => .int (i / j)) ta tb) (i / j) :=
  ev_opA ha hb fun G H v v' Q l h1 h2 q => ⟨i, j, h1, h2, hc, q⟩
theorem ev_pow {i j : Int} (ha : Ev M O σ tInt ta i) (hb : Ev M O σ tInt tb j) (hc : CPow i j) : Ev M O σ tInt (tOp (rI CPow fun i j => .int (i ^ j.toNat)) ta tb) (i ^ j.toNat) :=
  ev_opA ha hb fun G H v v' Q l h1 h2 q => ⟨i, j, h1, h2, hc, q⟩
theorem ev_lt {i j : Int} (ha : Ev M O σ tInt ta i) (hb : Ev M O σ tInt tb j) : Ev M O σ tBool (tOp (rI0 fun i j => .bl (decide (i < j))) ta tb) (decide (i < j)) :=
  ev_opA ha hb fun G H v v' Q l h1 h2 q => ⟨i, j, h1, h2, q⟩
theorem ev_le {i j : Int} (ha : Ev M O σ tInt ta i) (hb : Ev M O σ tInt tb j) : Ev M O σ tBool (tOp (rI0 fun i j => .bl (decide (i ≤ j))) ta tb) (decide (i ≤ j)) :=
  ev_opA ha hb fun G H v v' Q l h1 h2 q => ⟨i, j, h1, h2, q⟩
theorem ev_gt {i j : Int} (ha : Ev M O σ tInt ta i) (hb : Ev M O σ tInt tb j) : Ev M O σ tBool (tOp (rI0 fun i j => .bl (decide (j < i))) ta tb) (decide (j < i)) :=
  ev_opA ha hb fun G H v v' Q l h1 h2 q => ⟨i, j, h1, h2, q⟩
theorem ev_ge {i j : Int} (ha : Ev M O σ tInt ta i) (hb : Ev M O σ tInt tb j) : Ev M O σ tBool (tOp (rI0 fun i j => .bl (decide (j ≤ i))) ta tb) (decide (j ≤ i)) :=
  ev_opA ha hb fun G H v v' Q l h1 h2 q => ⟨i, j, h1, h2, q⟩
/-! ### == and != of atoms, is None -/
theorem ev_eqA {f : α → V} {g : β → V} (ha : Ev M O σ (aty f) ta x) (hb : Ev M O σ (aty g) tb y) (hs : scal (f x) (g y) = true) : Ev M O σ tBool (tOp rEq ta tb) (decide (f x = g y)) :=
  ev_opA ha hb fun G H v v' Q l h1 h2 q => by
    cases h1
    cases h2
    exact ⟨hs, q⟩
theorem ev_neA {f : α → V} {g : β → V} (ha : Ev M O σ (aty f) ta x) (hb : Ev M O σ (aty g) tb y) (hs : scal (f x) (g y) = true) : Ev M O σ tBool (tOp rNe ta tb) (!decide (f x = g y)) :=
  ev_opA ha hb fun G H v v' Q l h1 h2 q => by
    cases h1
    cases h2
    exact ⟨hs, q⟩
theorem vstr_eq {a b : Str} : decide (V.str a = V.str b) = decide (a = b) := decide_eq_decide.mpr ⟨fun h => by injection h, fun h => by rw [h]⟩
theorem vint_eq {a b : Int} : decide (V.int a = V.int b) = decide (a = b) := decide_eq_decide.mpr ⟨fun h => by injection h, fun h => by rw [h]⟩
theorem ev_eqS {a b : Str} (ha : Ev M O σ tStr ta a) (hb : Ev M O σ tStr tb b) : Ev M O σ tBool (tOp rEq ta tb) (decide (a = b)) := ev_is (ev_eqA ha hb rfl) vstr_eq
theorem ev_neS {a b : Str} (ha : Ev M O σ tStr ta a) (hb : Ev M O σ tStr tb b) : Ev M O σ tBool (tOp rNe ta tb) (!decide (a = b)) := ev_is (ev_neA ha hb rfl) (by rw [vstr_eq])
theorem ev_eqI {a b : Int} (ha : Ev M O σ tInt ta a) (hb : Ev M O σ tInt tb b) : Ev M O σ tBool (tOp rEq ta tb) (decide (a = b)) := ev_is (ev_eqA ha hb rfl) vint_eq
theorem ev_neI {a b : Int} (ha : Ev M O σ tInt ta a) (hb : Ev M O σ tInt tb b) : Ev M O σ tBool (tOp rNe ta tb) (!decide (a = b)) := ev_is (ev_neA ha hb rfl) (by rw [vint_eq])
def rIsNo : R2 := fun x y H Q => y = .non ∧ Q (.bl (decide (x = .non))) H
def rNotNo : R2 := fun x y H Q => y = .non ∧ Q (.bl (!decide (x = .non))) H
theorem o_isN {X : Cx} : OpR X (compareOp .Is) rIsNo := op_isN
theorem o_notN {X : Cx} : OpR X (compareOp .IsNot) rNotNo := op_notN
theorem ev_isN {f : α → V} {b : Bool} (ha : Ev M O σ (aty f) ta x) (e : decide (f x = .non) = b) : Ev M O σ tBool (tOp rIsNo ta (tC .non)) b :=
  ev_opA (u := tNon) (y := ()) ha (ev_c fun _ => rfl) fun G H v v' Q l h1 h2 q => by
    cases h1
    exact ⟨h2, by rw [e]; exact q⟩
theorem ev_notN {f : α → V} {b : Bool} (ha : Ev M O σ (aty f) ta x) (e : (!decide (f x = .non)) = b) : Ev M O σ tBool (tOp rNotNo ta (tC .non)) b :=
  ev_opA (u := tNon) (y := ()) ha (ev_c fun _ => rfl) fun G H v v' Q l h1 h2 q => by
    cases h1
    exact ⟨h2, by rw [e]; exact q⟩
/-! ### len -/
theorem ev_lenL {xs : List α} (ha : Ev M O σ (tLst K t) ta xs) : Ev M O σ tInt (tCB (rLenX K) (tCons ta tNil)) (xs.length : Int) := ev_cbA ha fun G H v Q l ⟨a, vs, e, h, g, z⟩ q => by
  subst e
  exact ⟨a, rfl, .inl ⟨vs, l.sqL h, by rw [g.length]; exact q⟩⟩
theorem ev_lenT {xs : List α} (ha : Ev M O σ (tTup K t) ta xs) : Ev M O σ tInt (tCB (rLenX K) (tCons ta tNil)) (xs.length : Int) := ev_cbA ha fun G H v Q l ⟨a, vs, e, h, g, z⟩ q => by
  subst e
  exact ⟨a, rfl, .inr (.inl ⟨vs, l.sqT h, by rw [g.length]; exact q⟩)⟩
theorem ev_lenD {xs : List (Str × α)} (ha : Ev M O σ (tDct t) ta xs) : Ev M O σ tInt (tCB (rLenX K) (tCons ta tNil)) (xs.length : Int) := ev_cbA ha fun G H v Q l ⟨a, vs, e, h, g, z⟩ q => by
  subst e
  exact ⟨a, rfl, .inr (.inr ⟨vs, l.rd h, by rw [g.length]; exact q⟩)⟩
theorem ev_lenS {z : Str} (ha : Ev M O σ tStr ta z) (hz : z.length ≤ sizeLine) : Ev M O σ tInt (tCB rLenS (tCons ta tNil)) (z.length : Int) := ev_cbA ha fun G H v Q l h q => by
  cases h
  exact ⟨z, rfl, hz, q⟩
theorem ev_len2 {p : α × β} (ha : Ev M O σ (tPair K t u) ta p) : Ev M O σ tInt (tCB (rLenX K) (tCons ta tNil)) 2 := ev_cbA ha fun G H v Q l ⟨a, v1, v2, e, h, g⟩ q => by
  subst e
  exact ⟨a, rfl, .inr (.inl ⟨_, l.sqT h, q⟩)⟩
theorem ev_len3 {p : α × β × γ} (ha : Ev M O σ (tTrip K t u w) ta p) : Ev M O σ tInt (tCB (rLenX K) (tCons ta tNil)) 3 := ev_cbA ha fun G H v Q l ⟨a, v1, v2, v3, e, h, g⟩ q => by
  subst e
  exact ⟨a, rfl, .inr (.inl ⟨_, l.sqT h, q⟩)⟩
/-! ### copies -/
theorem ev_listL {xs : List α} (ha : Ev M O σ (tLst K t) ta xs) : Ev M O σ (tLst K t) (tCB (rList K) (tCons ta tNil)) xs := ev_cb1 ha fun G H v Q l ⟨a, vs, e, h, g, z⟩ q => by
  subst e
  exact ⟨a, vs, rfl, .inl (l.sqL h), fun p hp => q _ _ _ (.new l hp) ⟨p, vs, rfl, .of upd_same, g.imp fun _ _ => t.mono ((Ext.new (o := .lst vs) l hp).le l), z⟩⟩
theorem ev_listT {xs : List α} (ha : Ev M O σ (tTup K t) ta xs) : Ev M O σ (tLst K t) (tCB (rList K) (tCons ta tNil)) xs := ev_cb1 ha fun G H v Q l ⟨a, vs, e, h, g, z⟩ q => by
  subst e
  exact ⟨a, vs, rfl, .inr (l.sqT h), fun p hp => q _ _ _ (.new l hp) ⟨p, vs, rfl, .of upd_same, g.imp fun _ _ => t.mono ((Ext.new (o := .lst vs) l hp).le l), z⟩⟩
theorem ev_tupleL {xs : List α} (ha : Ev M O σ (tLst K t) ta xs) : Ev M O σ (tTup K t) (tCB (rTuple K) (tCons ta tNil)) xs := ev_cb1 ha fun G H v Q l ⟨a, vs, e, h, g, z⟩ q => by
  subst e
  exact ⟨a, vs, rfl, .inl ⟨l.sqL h, fun p hp => q _ _ _ (.new l hp) ⟨p, vs, rfl, .of upd_same, g.imp fun _ _ => t.mono ((Ext.new (o := .tup vs) l hp).le l), z⟩⟩⟩
theorem ev_tupleT {xs : List α} (ha : Ev M O σ (tTup K t) ta xs) : Ev M O σ (tTup K t) (tCB (rTuple K) (tCons ta tNil)) xs := ev_cb1 ha fun G H v Q l ⟨a, vs, e, h, g, z⟩ q => by
  subst e
  exact ⟨a, vs, rfl, .inr ⟨l.sqT h, q _ _ _ (.refl l) ⟨a, vs, rfl, h, g, z⟩⟩⟩
theorem ev_dictD {xs : List (Str × α)} (ha : Ev M O σ (tDct t) ta xs) : Ev M O σ (tDct t) (tCB rDictD (tCons ta tNil)) xs := ev_cb1 ha fun G H v Q l ⟨a, vs, e, h, g, z⟩ q => by
  subst e
  exact ⟨a, vs, rfl, l.rd h, fun p hp => q _ _ _ (.new l hp) ⟨p, vs, rfl, .inl upd_same, g.imp fun _ _ y => ⟨y.1, t.mono ((Ext.new (o := .dK vs) l hp).le l) y.2⟩, z⟩⟩
theorem ev_max2 {i j : Int} (ha : Ev M O σ tInt ta i) (hb : Ev M O σ tInt tb j) : Ev M O σ tInt (tCB rMax2 (tCons ta (tCons tb tNil))) (if j > i then j else i) := ev_cb2 ha hb fun G H v v' Q l h1 h2 q => ⟨i, j, by rw [h1, h2], q _ _ _ (.refl l) rfl⟩
theorem ev_min2 {i j : Int} (ha : Ev M O σ tInt ta i) (hb : Ev M O σ tInt tb j) : Ev M O σ tInt (tCB rMin2 (tCons ta (tCons tb tNil))) (if j < i then j else i) := ev_cb2 ha hb fun G H v v' Q l h1 h2 q => ⟨i, j, by rw [h1, h2], q _ _ _ (.refl l) rfl⟩
theorem ev_intB {b : Bool} (ha : Ev M O σ tBool ta b) : Ev M O σ tInt (tCB rIntB (tCons ta tNil)) (if b then 1 else 0) := ev_cbA ha fun G H v Q l h q => ⟨b, by rw [h], q⟩
theorem ev_all {bs : List Bool} (ha : Ev M O σ (tLst K tBool) ta bs) : Ev M O σ tBool (tCB (rAll K) (tCons ta tNil)) (bs.all id) := ev_cbA ha fun G H v Q l ⟨a, vs, e, h, g, z⟩ q => by
  subst e
  have e2 : vs = bs.map V.bl := g.atoms
  subst e2
  exact ⟨a, bs, rfl, l.sqL h, q⟩
theorem ev_sum {ns : List Int} (ha : Ev M O σ (tLst K tInt) ta ns) : Ev M O σ tInt (tCB (rSum K) (tCons ta tNil)) ns.sum := ev_cbA ha fun G H v Q l ⟨a, vs, e, h, g, z⟩ q => by
  subst e
  have e2 : vs = ns.map V.int := g.atoms
  subst e2
  exact ⟨a, ns, rfl, l.sqL h, q⟩
/-! ### parts -/
theorem ev_ixL {xs : List α} {i : Nat} {j : Int} (ha : Ev M O σ (tLst K t) ta xs) (hb : Ev M O σ tInt tb j) (hj : j = (i : Int)) (hx : xs[i]? = some x) : Ev M O σ t (tOp (rIxL K) ta tb) x := ev_op2 ha hb fun G H v v' Q l ⟨a, vs, e, h, g, z⟩ h2 q => by
  subst e
  obtain ⟨b, hb, r⟩ := g.get' hx
  exact ⟨a, vs, j, b, rfl, h2, l.sqL h, by rw [hj]; exact atI_nat hb, q _ _ _ (.refl l) r⟩
theorem ev_ixT {xs : List α} {i : Nat} {j : Int} (ha : Ev M O σ (tTup K t) ta xs) (hb : Ev M O σ tInt tb j) (hj : j = (i : Int)) (hx : xs[i]? = some x) : Ev M O σ t (tOp (rIxT K) ta tb) x := ev_op2 ha hb fun G H v v' Q l ⟨a, vs, e, h, g, z⟩ h2 q => by
  subst e
  obtain ⟨b, hb, r⟩ := g.get' hx
  exact ⟨a, vs, j, b, rfl, h2, l.sqT h, by rw [hj]; exact atI_nat hb, q _ _ _ (.refl l) r⟩
theorem ev_fst {p : α × β} (ha : Ev M O σ (tPair K t u) ta p) : Ev M O σ t (tOp (rIxT K) ta (tC (.int 0))) p.1 := ev_op2 ha ev_int fun G H v v' Q l ⟨a, v1, v2, e, h, g1, g2⟩ h2 q => by
  subst e
  exact ⟨a, [v1, v2], 0, v1, rfl, h2, l.sqT h, rfl, q _ _ _ (.refl l) g1⟩
theorem ev_snd {p : α × β} (ha : Ev M O σ (tPair K t u) ta p) : Ev M O σ u (tOp (rIxT K) ta (tC (.int 1))) p.2 := ev_op2 ha ev_int fun G H v v' Q l ⟨a, v1, v2, e, h, g1, g2⟩ h2 q => by
  subst e
  exact ⟨a, [v1, v2], 1, v2, rfl, h2, l.sqT h, rfl, q _ _ _ (.refl l) g2⟩
theorem ev_p1 {p : α × β × γ} (ha : Ev M O σ (tTrip K t u w) ta p) : Ev M O σ t (tOp (rIxT K) ta (tC (.int 0))) p.1 := ev_op2 ha ev_int fun G H v v' Q l ⟨a, v1, v2, v3, e, h, g1, g2, g3⟩ h2 q => by
  subst e
  exact ⟨a, [v1, v2, v3], 0, v1, rfl, h2, l.sqT h, rfl, q _ _ _ (.refl l) g1⟩
theorem ev_p2 {p : α × β × γ} (ha : Ev M O σ (tTrip K t u w) ta p) : Ev M O σ u (tOp (rIxT K) ta (tC (.int 1))) p.2.1 := ev_op2 ha ev_int fun G H v v' Q l ⟨a, v1, v2, v3, e, h, g1, g2, g3⟩ h2 q => by
  subst e
  exact ⟨a, [v1, v2, v3], 1, v2, rfl, h2, l.sqT h, rfl, q _ _ _ (.refl l) g2⟩
theorem ev_p3 {p : α × β × γ} (ha : Ev M O σ (tTrip K t u w) ta p) : Ev M O σ w (tOp (rIxT K) ta (tC (.int 2))) p.2.2 := ev_op2 ha ev_int fun G H v v' Q l ⟨a, v1, v2, v3, e, h, g1, g2, g3⟩ h2 q => by
  subst e
  exact ⟨a, [v1, v2, v3], 2, v3, rfl, h2, l.sqT h, rfl, q _ _ _ (.refl l) g3⟩
/-! ### displays -/
theorem sz (n : Nat) (h : n ≤ 1000 := by decide) : n ≤ sizeLine := Nat.le_trans h (by decide)

end
end G3
set_option maxRecDepth 100000
set_option maxHeartbeats 4000000
/-! G2: dicts by text keys, loops, comprehensions. -/
namespace G3
open PySem L2

/-! ### plain dicts -/
section
variable {α : Type}
def dget (xs : List (Str × α)) (k : Str) : Option α := (xs.find? fun kx => decide (kx.1 = k)).map (·.2)
def dput (xs : List (Str × α)) (k : Str) (x : α) : List (Str × α) :=
  if (xs.any fun kx => decide (kx.1 = k)) = true then xs.map (fun kx => if kx.1 = k then (kx.1, x) else kx) else xs ++ [(k, x)]
def ddrop (xs : List (Str × α)) (k : Str) : List (Str × α) := xs.filter fun kx => decide (kx.1 ≠ k)
def akv (f : α → V) (xs : List (Str × α)) : List (Key × V) := xs.map fun kx => (.inr kx.1, f kx.2)
theorem inr_dec (a b : Str) : decide ((Sum.inr a : Key) = Sum.inr b) = decide (a = b) := decide_eq_decide.mpr ⟨fun h => by injection h, fun h => by rw [h]⟩
theorem kvR_dec {t : Ty α} {G : Hp} {kv : Key × V} {kx : Str × α} (h : kvR t G kv kx) (k : Str) : decide (kv.1 = (.inr k : Key)) = decide (kx.1 = k) := by rw [h.1, inr_dec]
theorem Fa.kget {t : Ty α} {G : Hp} {kvs : List (Key × V)} {xs : List (Str × α)} (h : Fa (kvR t G) kvs xs) (k : Str) :
    (∀ x, dget xs k = some x → ∃ v, valV kvs (.inr k) = some v ∧ t.r G v x) ∧ (dget xs k = none → valV kvs (.inr k) = none) := by
  induction h with
  | nil => exact ⟨fun x e => (by cases e), fun _ => rfl⟩
  | @cons kv kx kvs xs h _ ih =>
    have d := kvR_dec h k
    by_cases e : kx.1 = k
    · have e2 : kv.1 = (.inr k : Key) := by rw [h.1, e]
      refine ⟨fun x ex => ?_, fun ex => ?_⟩
      · have e3 : dget (kx :: xs) k = some kx.2 := by unfold dget; rw [List.find?_cons, decide_eq_true e]; rfl
        rw [e3] at ex
        cases ex
        exact ⟨kv.2, valV_pos e2, h.2⟩
      · have e3 : dget (kx :: xs) k = some kx.2 := by unfold dget; rw [List.find?_cons, decide_eq_true e]; rfl
        rw [e3] at ex
        cases ex
    · have e2 : ¬ kv.1 = (.inr k : Key) := by rw [h.1]; intro z; injection z with z; exact e z
      have e3 : dget (kx :: xs) k = dget xs k := by unfold dget; rw [List.find?_cons, decide_eq_false e]
      rw [e3, valV_neg e2]
      exact ih
theorem Fa.kany {t : Ty α} {G : Hp} {kvs : List (Key × V)} {xs : List (Str × α)} (h : Fa (kvR t G) kvs xs) (k : Str) : (kvs.any fun kv => decide (kv.1 = (.inr k : Key))) = xs.any fun kx => decide (kx.1 = k) := by
  induction h with
  | nil => rfl
  | cons h _ ih => rw [List.any_cons, List.any_cons, ih, kvR_dec h k]
theorem Fa.kput {t : Ty α} {G : Hp} {kvs : List (Key × V)} {xs : List (Str × α)} (h : Fa (kvR t G) kvs xs) (k : Str) {v : V} {x : α} (r : t.r G v x) : Fa (kvR t G) (putK kvs (.inr k) v) (dput xs k x) := by
  unfold putK dput
  rw [h.kany k]
  split
  · rename_i hany
    clear hany
    induction h with
    | nil => exact .nil
    | @cons kv kx kvs xs h _ ih =>
      rw [List.map_cons, List.map_cons]
      refine .cons ?_ ih
      by_cases e : kx.1 = k
      · have e2 : kv.1 = (.inr k : Key) := by rw [h.1, e]
        rw [if_pos e, if_pos e2]
        exact ⟨h.1, r⟩
      · have e2 : ¬ kv.1 = (.inr k : Key) := by rw [h.1]; intro z; injection z with z; exact e z
        rw [if_neg e, if_neg e2]
        exact h
  · exact h.append (.cons ⟨rfl, r⟩ .nil)
theorem Fa.kdrop {t : Ty α} {G : Hp} {kvs : List (Key × V)} {xs : List (Str × α)} (h : Fa (kvR t G) kvs xs) (k : Str) : Fa (kvR t G) (dropK kvs (.inr k)) (ddrop xs k) := by
  unfold dropK ddrop
  induction h with
  | nil => exact .nil
  | @cons kv kx kvs xs h _ ih =>
    rw [List.filter_cons, List.filter_cons]
    by_cases e : kx.1 = k
    · have e2 : kv.1 = (.inr k : Key) := by rw [h.1, e]
      rw [if_neg (by simp [e2]), if_neg (by simp [e])]
      exact ih
    · have e2 : ¬ kv.1 = (.inr k : Key) := by rw [h.1]; intro z; injection z with z; exact e z
      rw [if_pos (by simp [e2]), if_pos (by simp [e])]
      exact .cons h ih
theorem Fa.akv {f : α → V} {G : Hp} : ∀ (xs : List (Str × α)), Fa (kvR (aty f) G) (akv f xs) xs
  | [] => .nil
  | _ :: r => .cons ⟨rfl, rfl⟩ (Fa.akv r)
theorem akv_of {f : α → V} {G : Hp} : ∀ {kvs : List (Key × V)} {xs : List (Str × α)}, Fa (kvR (aty f) G) kvs xs → kvs = akv f xs
  | _, _, .nil => rfl
  | _, _, .cons h r => by
    rw [akv_of r]
    obtain ⟨h1, h2⟩ := h
    show _ :: _ = (_, _) :: _
    rw [← h1, ← (show _ = f _ from h2)]
    rfl
theorem akv_put (f : α → V) (xs : List (Str × α)) (k : Str) (x : α) : putK (akv f xs) (.inr k) (f x) = akv f (dput xs k x) := akv_of (G := fun _ => none) ((Fa.akv xs).kput k rfl)
theorem akv_drop (f : α → V) (xs : List (Str × α)) (k : Str) : dropK (akv f xs) (.inr k) = akv f (ddrop xs k) := akv_of (G := fun _ => none) ((Fa.akv xs).kdrop k)
theorem akv_len (f : α → V) (xs : List (Str × α)) : (akv f xs).length = xs.length := List.length_map _
theorem dput_len (xs : List (Str × α)) (k : Str) (x : α) : (dput xs k x).length ≤ xs.length + 1 := by
  unfold dput
  split
  · rw [List.length_map]
    omega
  · rw [List.length_append]
    exact Nat.le_refl _
end
/-- the typed contents of an owned dict -/
class HasK (M : Asr) (kvs : List (Key × V)) {α : outParam Type} (t : outParam (Ty α)) (xs : outParam (List (Str × α))) : Prop where
  get : ∀ {G : Hp}, M.p G → Fa (kvR t G) kvs xs
instance (priority := 2000) {M : Asr} {α : Type} {f : α → V} {xs : List (Str × α)} : HasK M (akv f xs) (aty f) xs := ⟨fun _ => Fa.akv xs⟩
instance (priority := 1500) {M : Asr} {α : Type} {t : Ty α} {kvs} {xs : List (Str × α)} : HasK (M.kvs t kvs xs) kvs t xs := ⟨fun m => m.2⟩
instance (priority := 500) {M : Asr} {α β : Type} {t : Ty α} {u : Ty β} {v : V} {y : β} {kvs} {xs : List (Str × α)} [h : HasK M kvs t xs] : HasK (M.is u v y) kvs t xs := ⟨fun m => h.get m.1⟩
instance (priority := 500) {M N : Asr} {α : Type} {t : Ty α} {kvs} {xs : List (Str × α)} [h : HasK M kvs t xs] : HasK (M.and N) kvs t xs := ⟨fun m => h.get m.1⟩
instance (priority := 450) {M N : Asr} {α : Type} {t : Ty α} {kvs} {xs : List (Str × α)} [h : HasK N kvs t xs] : HasK (M.and N) kvs t xs := ⟨fun m => h.get m.2⟩
instance (priority := 450) {M N : Asr} {α : Type} {t : Ty α} {v} {x : α} [h : Has N v t x] : Has (M.and N) v t x := ⟨fun m => h.get m.2⟩
instance (priority := 500) {M : Asr} {α β : Type} {t : Ty α} {u : Ty β} {kvs ws} {xs : List (Str × α)} {ys} [h : HasK M kvs t xs] : HasK (M.kvs u ws ys) kvs t xs := ⟨fun m => h.get m.1⟩
instance (priority := 500) {M : Asr} {α β : Type} {t : Ty α} {u : Ty β} {kvs ws} {xs : List (Str × α)} {ys} [h : HasK M kvs t xs] : HasK (M.its u ws ys) kvs t xs := ⟨fun m => h.get m.1⟩
/-- .. of an owned list -/
class HasL (M : Asr) (vs : List V) {α : outParam Type} (t : outParam (Ty α)) (xs : outParam (List α)) : Prop where
  get : ∀ {G : Hp}, M.p G → Fa (t.r G) vs xs
instance (priority := 2000) {M : Asr} {α : Type} {f : α → V} {xs : List α} : HasL M (xs.map f) (aty f) xs := ⟨fun _ => Fa.of_atoms xs⟩
instance (priority := 1500) {M : Asr} {α : Type} {t : Ty α} {vs} {xs : List α} : HasL (M.its t vs xs) vs t xs := ⟨fun m => m.2⟩
instance (priority := 500) {M : Asr} {α β : Type} {t : Ty α} {u : Ty β} {v : V} {y : β} {vs} {xs : List α} [h : HasL M vs t xs] : HasL (M.is u v y) vs t xs := ⟨fun m => h.get m.1⟩
instance (priority := 500) {M N : Asr} {α : Type} {t : Ty α} {vs} {xs : List α} [h : HasL M vs t xs] : HasL (M.and N) vs t xs := ⟨fun m => h.get m.1⟩
instance (priority := 450) {M N : Asr} {α : Type} {t : Ty α} {vs} {xs : List α} [h : HasL N vs t xs] : HasL (M.and N) vs t xs := ⟨fun m => h.get m.2⟩
instance (priority := 500) {M : Asr} {α β : Type} {t : Ty α} {u : Ty β} {vs ws} {xs : List α} {ys} [h : HasL M vs t xs] : HasL (M.kvs u ws ys) vs t xs := ⟨fun m => h.get m.1⟩
instance (priority := 500) {M : Asr} {α β : Type} {t : Ty α} {u : Ty β} {vs ws} {xs : List α} {ys} [h : HasL M vs t xs] : HasL (M.its u ws ys) vs t xs := ⟨fun m => h.get m.1⟩

section
variable {M : Asr} {O : List (Addr × HO)} {σ : L2.St} {K : PySem.W.Frag} {α β γ : Type} {t : Ty α} {u : Ty β} {te ta tb tc td ty tx : TE} {x : α} {y : β} {xs : List (Str × α)} {k : Str}
/-! ### dicts that are seen -/
theorem ev_dget (hd : Ev M O σ (tDct t) td xs) (hk : Ev M O σ tStr ty k) (hx : dget xs k = some x) : Ev M O σ t (tDGet td ty) x := fun G H m l Q q =>
  hd G H m l _ fun v G1 H1 e1 r1 => hk G1 H1 (M.mono (e1.le l.le) m) (l.ext e1) _ fun v2 G2 H2 e2 r2 => by
    obtain ⟨a, kvs, e, h, g, z⟩ := (tDct t).mono (e2.le e1.gh) r1
    subst e
    cases r2
    obtain ⟨w, hw, rw'⟩ := (g.kget k).1 x hx
    exact ⟨a, w, rfl, .inl ⟨kvs, .inr k, e2.gh.rd h, rfl, hw.symm⟩, q w G2 H2 (e1.trans e2) rw'⟩
theorem kv_some {G : Hp} {kvs : List (Key × V)} (g : Fa (kvR t G) kvs xs) (k : Str) : (valV kvs (.inr k)).isSome = (dget xs k).isSome := by
  cases e : dget xs k with
  | none => rw [(g.kget k).2 e] <;> rfl
  | some x =>
    obtain ⟨v, hv, _⟩ := (g.kget k).1 x e
    rw [hv]
    rfl
theorem ev_din (hk : Ev M O σ tStr ty k) (hd : Ev M O σ (tDct t) td xs) : Ev M O σ tBool (tDIn ty td) (dget xs k).isSome := fun G H m l Q q =>
  hk G H m l _ fun v G1 H1 e1 r1 => hd G1 H1 (M.mono (e1.le l.le) m) (l.ext e1) _ fun v2 G2 H2 e2 r2 => by
    obtain ⟨a, kvs, e, h, g, z⟩ := r2
    subst e
    cases r1
    exact ⟨a, valV kvs (.inr k), rfl, .inl ⟨kvs, .inr k, e2.gh.rd h, rfl, rfl⟩, q _ G2 H2 (e1.trans e2) (by rw [kv_some g] <;> rfl)⟩
theorem ev_dnin (hk : Ev M O σ tStr ty k) (hd : Ev M O σ (tDct t) td xs) : Ev M O σ tBool (tDNotIn ty td) (!(dget xs k).isSome) := fun G H m l Q q =>
  hk G H m l _ fun v G1 H1 e1 r1 => hd G1 H1 (M.mono (e1.le l.le) m) (l.ext e1) _ fun v2 G2 H2 e2 r2 => by
    obtain ⟨a, kvs, e, h, g, z⟩ := r2
    subst e
    cases r1
    exact ⟨a, valV kvs (.inr k), rfl, .inl ⟨kvs, .inr k, e2.gh.rd h, rfl, rfl⟩, q _ G2 H2 (e1.trans e2) (by rw [kv_some g] <;> rfl)⟩
/-- d.get(k), of atoms -/
theorem ev_dget1 {f : α → V} (hd : Ev M O σ (tDct (aty f)) td xs) (hk : Ev M O σ tStr ty k) : Ev M O σ (tOpt f) (tDGet1 td ty) (dget xs k) := fun G H m l Q q =>
  hd G H m l _ fun v G1 H1 e1 r1 => by
    obtain ⟨a, kvs, e, h, g, z⟩ := r1
    subst e
    refine ⟨a, rfl, .inl ⟨kvs, e1.gh.rd h⟩, hk G1 H1 (M.mono (e1.le l.le) m) (l.ext e1) _ fun v2 G2 H2 e2 r2 => ?_⟩
    cases r2
    have h2 := e2.gh.rd ((e2.le e1.gh).rd h)
    refine ⟨valV kvs (.inr k), .inl ⟨kvs, .inr k, h2, rfl, rfl⟩, q _ G2 H2 (e1.trans e2) ?_⟩
    show (valV kvs (.inr k)).getD .non = oV f (dget xs k)
    cases ex : dget xs k with
    | none => rw [(g.kget k).2 ex]; rfl
    | some x =>
      obtain ⟨w, hw, rw'⟩ := (g.kget k).1 x ex
      rw [hw]
      exact rw'
/-! ### dicts that are owned -/
variable {i j : Nat} {p : Addr} {kvs : List (Key × V)}
theorem ev_oget (hO : O[j]? = some (p, .dK kvs)) (hk : Ev M O σ tStr ty k) [hm : HasK M kvs t xs] (hx : dget xs k = some x) (hs : σ[i]? = some (some (.ref p)) := by rfl) : Ev M O σ t (tDGet (tVar i) ty) x := fun G H m l Q q =>
  ⟨_, hs, hk G H m l _ fun v2 G2 H2 e2 r2 => by
    cases r2
    have m2 := M.mono (e2.le l.le) m
    obtain ⟨w, hw, rw'⟩ := ((hm.get m2).kget k).1 x hx
    exact ⟨p, w, rfl, .inl ⟨kvs, .inr k, .inl ((l.ext e2).at_ hO), rfl, hw.symm⟩, q w G2 H2 e2 rw'⟩⟩
theorem ev_oin (hO : O[j]? = some (p, .dK kvs)) (hk : Ev M O σ tStr ty k) [hm : HasK M kvs t xs] (hs : σ[i]? = some (some (.ref p)) := by rfl) : Ev M O σ tBool (tDIn ty (tVar i)) (dget xs k).isSome := fun G H m l Q q =>
  hk G H m l _ fun v2 G2 H2 e2 r2 => ⟨_, hs, by
    cases r2
    have m2 := M.mono (e2.le l.le) m
    exact ⟨p, valV kvs (.inr k), rfl, .inl ⟨kvs, .inr k, .inl ((l.ext e2).at_ hO), rfl, rfl⟩, q _ G2 H2 e2 (by rw [kv_some (hm.get m2)] <;> rfl)⟩⟩
theorem ev_onin (hO : O[j]? = some (p, .dK kvs)) (hk : Ev M O σ tStr ty k) [hm : HasK M kvs t xs] (hs : σ[i]? = some (some (.ref p)) := by rfl) : Ev M O σ tBool (tDNotIn ty (tVar i)) (!(dget xs k).isSome) := fun G H m l Q q =>
  hk G H m l _ fun v2 G2 H2 e2 r2 => ⟨_, hs, by
    cases r2
    have m2 := M.mono (e2.le l.le) m
    exact ⟨p, valV kvs (.inr k), rfl, .inl ⟨kvs, .inr k, .inl ((l.ext e2).at_ hO), rfl, rfl⟩, q _ G2 H2 e2 (by rw [kv_some (hm.get m2)] <;> rfl)⟩⟩
/-- xs[i], len(xs) of an owned list -/
theorem ev_olen {vs : List V} (hO : O[j]? = some (p, .lst vs)) (hs : σ[i]? = some (some (.ref p)) := by rfl) : Ev M O σ tInt (tCB (rLenX K) (tCons (tVar i) tNil)) (vs.length : Int) := fun G H m l Q q =>
  ⟨_, hs, p, rfl, .inl ⟨vs, .of (l.at_ hO), q _ G H (.refl l.le) rfl⟩⟩
theorem ev_olenD (hO : O[j]? = some (p, .dK kvs)) (hs : σ[i]? = some (some (.ref p)) := by rfl) : Ev M O σ tInt (tCB (rLenX K) (tCons (tVar i) tNil)) (kvs.length : Int) := fun G H m l Q q =>
  ⟨_, hs, p, rfl, .inr (.inr ⟨kvs, .inl (l.at_ hO), q _ G H (.refl l.le) rfl⟩)⟩
theorem ev_oix {vs : List V} {zs : List α} {n : Nat} {z : Int} (hO : O[j]? = some (p, .lst vs)) (hb : Ev M O σ tInt tb z) (hz : z = (n : Int)) [hm : HasL M vs t zs] (hx : zs[n]? = some x) (hs : σ[i]? = some (some (.ref p)) := by rfl) : Ev M O σ t (tOp (rIxL K) (tVar i) tb) x := fun G H m l Q q =>
  ⟨_, hs, hb G H m l _ fun v2 G2 H2 e2 r2 => by
    cases r2
    obtain ⟨w, hw, rw'⟩ := (hm.get (M.mono (e2.le l.le) m)).get' hx
    exact ⟨p, vs, z, w, rfl, rfl, .of ((l.ext e2).at_ hO), by rw [hz]; exact atI_nat hw, q w G2 H2 e2 rw'⟩⟩
/-! ### new owned objects, stores -/
variable {B : Bs} {D : Ends} {tz : TS}
theorem st_newD (k : ∀ p, St B M ((p, .dK []) :: O) tz D (σ.set i (some (.ref p)))) : St B M O (tSeq (tAsg tDNewK (gName i)) tz) D σ := fun G H m e w p hp =>
  k p G (upd H p (.dK [])) m (B.ext e (.newO (B.le e) hp)) (w.push e hp)
theorem st_newT (k : ∀ p, St B M ((p, .dT []) :: O) tz D (σ.set i (some (.ref p)))) : St B M O (tSeq (tAsg tDNewT (gName i)) tz) D σ := fun G H m e w p hp =>
  k p G (upd H p (.dT [])) m (B.ext e (.newO (B.le e) hp)) (w.push e hp)
theorem st_newL (k : ∀ p, St B M ((p, .lst []) :: O) tz D (σ.set i (some (.ref p)))) : St B M O (tSeq (tAsg (L2.tLst tNil) (gName i)) tz) D σ := fun G H m e w =>
  ⟨Nat.zero_le _, fun p hp => k p G (upd H p (.lst [])) m (B.ext e (.newO (B.le e) hp)) (w.push e hp)⟩
/-- found = dict(d), found = list(l): owned copies -/
theorem st_copyD (hd : Ev M O σ (tDct t) td xs) (k : ∀ p kvs, kvs.length = xs.length → kvs.length ≤ sizeLine → St B (M.kvs t kvs xs) ((p, .dK kvs) :: O) tz D (σ.set i (some (.ref p)))) : St B M O (tSeq (tAsg (tCB rDictD (tCons td tNil)) (gName i)) tz) D σ := fun G H m e w =>
  hd G H m (w.wl e) _ fun v G1 H1 e1 r1 => by
    obtain ⟨a, kvs, ev, h, g, z⟩ := r1
    subst ev
    have eB := B.ext e e1
    exact ⟨a, kvs, rfl, e1.gh.rd h, fun p hp => k p kvs g.length z G1 (upd H1 p (.dK kvs)) ⟨M.mono (e1.le (B.le e)) m, g⟩ (B.ext eB (.newO (B.le eB) hp)) ((w.ext e1).push eB hp)⟩
theorem st_copyDA {f : α → V} (hd : Ev M O σ (tDct (aty f)) td xs) (k : ∀ p, xs.length ≤ sizeLine → St B M ((p, .dK (akv f xs)) :: O) tz D (σ.set i (some (.ref p)))) : St B M O (tSeq (tAsg (tCB rDictD (tCons td tNil)) (gName i)) tz) D σ := fun G H m e w =>
  hd G H m (w.wl e) _ fun v G1 H1 e1 r1 => by
    obtain ⟨a, kvs, ev, h, g, z⟩ := r1
    subst ev
    have eB := B.ext e e1
    have ek := akv_of g
    subst ek
    rw [akv_len] at z
    exact ⟨a, _, rfl, e1.gh.rd h, fun p hp => k p z G1 (upd H1 p (.dK (akv f xs))) (M.mono (e1.le (B.le e)) m) (B.ext eB (.newO (B.le eB) hp)) ((w.ext e1).push eB hp)⟩
theorem st_copyL {ys : List α} (hd : Ev M O σ (tLst K t) td ys) (k : ∀ p vs, vs.length = ys.length → vs.length ≤ sizeLine → St B (M.its t vs ys) ((p, .lst vs) :: O) tz D (σ.set i (some (.ref p)))) : St B M O (tSeq (tAsg (tCB (rList K) (tCons td tNil)) (gName i)) tz) D σ := fun G H m e w =>
  hd G H m (w.wl e) _ fun v G1 H1 e1 r1 => by
    obtain ⟨a, vs, ev, h, g, z⟩ := r1
    subst ev
    have eB := B.ext e e1
    exact ⟨a, vs, rfl, .inl (e1.gh.sqL h), fun p hp => k p vs g.length z G1 (upd H1 p (.lst vs)) ⟨M.mono (e1.le (B.le e)) m, g⟩ (B.ext eB (.newO (B.le eB) hp)) ((w.ext e1).push eB hp)⟩
theorem st_copyLA {f : α → V} {ys : List α} (hd : Ev M O σ (tLst K (aty f)) td ys) (k : ∀ p, ys.length ≤ sizeLine → St B M ((p, .lst (ys.map f)) :: O) tz D (σ.set i (some (.ref p)))) : St B M O (tSeq (tAsg (tCB (rList K) (tCons td tNil)) (gName i)) tz) D σ := fun G H m e w =>
  hd G H m (w.wl e) _ fun v G1 H1 e1 r1 => by
    obtain ⟨a, vs, ev, h, g, z⟩ := r1
    subst ev
    have eB := B.ext e e1
    have ek : vs = ys.map f := g.atoms
    subst ek
    rw [List.length_map] at z
    exact ⟨a, _, rfl, .inl (e1.gh.sqL h), fun p hp => k p z G1 (upd H1 p (.lst (ys.map f))) (M.mono (e1.le (B.le e)) m) (B.ext eB (.newO (B.le eB) hp)) ((w.ext e1).push eB hp)⟩
/-- d[k] = e -/
theorem st_dput (hO : O[j]? = some (p, .dK kvs)) (hl : kvs.length < sizeLine) (hv : Ev M O σ t te x) (hk : Ev M O σ tStr ty k) (c : ∀ v, t.ok v x → St B (M.is t v x) (O.set j (p, .dK (putK kvs (.inr k) v))) tz D σ) (hs : σ[i]? = some (some (.ref p)) := by rfl) : St B M O (tSeq (sDPut (tVar i) ty te) tz) D σ := fun G H m e w =>
  hv G H m (w.wl e) _ fun v G1 H1 e1 r1 => ⟨_, hs, by
    have eB := B.ext e e1
    have w1 := w.ext e1
    refine hk G1 H1 (M.mono (e1.le (B.le e)) m) (w1.wl eB) _ fun v2 G2 H2 e2 r2 => ?_
    cases r2
    have eB2 := B.ext eB e2
    have w2 := w1.ext e2
    obtain ⟨o1, o2, o3⟩ := w2.at_ hO
    refine ⟨p, _, rfl, .inl ⟨kvs, .inr k, o3, rfl, hl, rfl⟩, ?_⟩
    exact c v (t.of r1) G2 _ ⟨M.mono ((e1.trans e2).le (B.le e)) m, t.mono (e2.le e1.gh) r1⟩ (B.set o1 eB2 o2) (w2.set hO)⟩
theorem st_dputA {f : α → V} (hO : O[j]? = some (p, .dK (akv f xs))) (hl : xs.length < sizeLine) (hv : Ev M O σ (aty f) te x) (hk : Ev M O σ tStr ty k) (c : St B M (O.set j (p, .dK (akv f (dput xs k x)))) tz D σ) (hs : σ[i]? = some (some (.ref p)) := by rfl) : St B M O (tSeq (sDPut (tVar i) ty te) tz) D σ :=
  st_dput hO (by rw [akv_len]; exact hl) hv hk (fun v hv => by
    cases hv
    rw [akv_put]
    exact c.weak fun _ m => m.1) hs
/-- l.append(e) -/
theorem st_app {vs : List V} (hO : O[j]? = some (p, .lst vs)) (hl : vs.length < sizeLine) (hv : Ev M O σ t te x) (c : ∀ v, t.ok v x → St B (M.is t v x) (O.set j (p, .lst (vs ++ [v]))) tz D σ) (hs : σ[i]? = some (some (.ref p)) := by rfl) : St B M O (tSeq (tDrop (tBM K "list" rAppend (tVar i) (tCons te tNil))) tz) D σ := fun G H m e w =>
  ⟨_, hs, .inl ⟨rfl, vs, .of (w.at_ hO).2.2⟩, hv G H m (w.wl e) _ fun v G1 H1 e1 r1 => by
    have eB := B.ext e e1
    have w1 := w.ext e1
    obtain ⟨o1, o2, o3⟩ := w1.at_ hO
    exact ⟨p, vs, v, rfl, rfl, o3, hl, c v (t.of r1) G1 _ ⟨M.mono (e1.le (B.le e)) m, r1⟩ (B.set o1 eB o2) (w1.set hO)⟩⟩
theorem st_appA {f : α → V} {ys : List α} (hO : O[j]? = some (p, .lst (ys.map f))) (hl : ys.length < sizeLine) (hv : Ev M O σ (aty f) te x) (c : St B M (O.set j (p, .lst ((ys ++ [x]).map f))) tz D σ) (hs : σ[i]? = some (some (.ref p)) := by rfl) : St B M O (tSeq (tDrop (tBM K "list" rAppend (tVar i) (tCons te tNil))) tz) D σ :=
  st_app hO (by rw [List.length_map]; exact hl) hv (fun v hv => by
    cases hv
    rw [show ys.map f ++ [f x] = (ys ++ [x]).map f by rw [List.map_append]; rfl]
    exact c.weak fun _ m => m.1) hs
/-- d.pop(k, None) as a statement -/
theorem st_dpop (hO : O[j]? = some (p, .dK kvs)) (hk : Ev M O σ tStr ty k) (c : St B M (O.set j (p, .dK (dropK kvs (.inr k)))) tz D σ) (hs : σ[i]? = some (some (.ref p)) := by rfl) : St B M O (tSeq (tDrop (tDPop2 (tVar i) ty (tC .non))) tz) D σ := fun G H m e w =>
  ⟨_, hs, p, rfl, .inl ⟨kvs, .inl (w.at_ hO).2.2⟩, hk G H m (w.wl e) _ fun v G1 H1 e1 r1 => by
    have eB := B.ext e e1
    have w1 := w.ext e1
    obtain ⟨o1, o2, o3⟩ := w1.at_ hO
    cases r1
    refine ⟨kvs, .inr k, o3, rfl, fun _ _ => c G1 _ (M.mono (e1.le (B.le e)) m) (B.set o1 eB o2) (w1.set hO), fun hn => ?_⟩
    have ed : dropK kvs (.inr k) = kvs := by
      unfold dropK
      rw [List.filter_eq_self]
      intro a ha
      have q := valV_not hn
      exact decide_eq_true fun z => q (List.mem_map.mpr ⟨a, ha, z⟩)
    rw [ed] at c
    have eo : O.set j (p, HO.dK kvs) = O := by
      apply List.ext_getElem?
      intro n
      rw [List.getElem?_set]
      split
      · rename_i q
        subst q
        rw [hO, if_pos (List.getElem?_eq_some_iff.mp hO).1]
      · rfl
    rw [eo] at c
    exact c G1 H1 (M.mono (e1.le (B.le e)) m) eB w1⟩
end
end G3
set_option maxRecDepth 100000
set_option maxHeartbeats 4000000
/-! G4: loops and comprehensions over what is typed. -/
namespace G3
open PySem L2

/-- what a target does with a typed item -/
structure Tgt {α : Type} (g : TG) (t : Ty α) (Ω : Type) where
  ok : Ω → α → Prop
  F : Asr → Ω → α → Asr
  put : Ω → L2.St → L2.St
  run : ∀ {M : Asr} {G H : Hp} {v : V} {x : α} {σ : L2.St} {Q : L2.St → Hp → Prop}, M.p G → Le G H → t.r G v x → (∀ ω, ok ω x → (F M ω x).p G → Q (put ω σ) H) → g v σ H Q
  sub : ∀ {M : Asr} {ω : Ω} {x : α} {G : Hp}, (F M ω x).p G → M.p G
@[reducible] def tgN {α : Type} (t : Ty α) (j : Nat) : Tgt (gName j) t V := ⟨t.ok, fun M v x => M.is t v x, fun v σ => σ.set j (some v), fun m _ r k => k _ (t.of r) ⟨m, r⟩, fun m => m.1⟩
@[reducible] def tgP {α β : Type} (K : PySem.W.Frag) (t : Ty α) (u : Ty β) (i j : Nat) : Tgt (gTup K 2 (gCons (gName i) (gCons (gName j) gNil))) (tPair K t u) (V × V) :=
  ⟨fun ω x => t.ok ω.1 x.1 ∧ u.ok ω.2 x.2, fun M ω x => (M.is t ω.1 x.1).is u ω.2 x.2, fun ω σ => (σ.set i (some ω.1)).set j (some ω.2),
    fun {M G H v x σ Q} m l r k => by
      obtain ⟨a, v1, v2, e, h, g1, g2⟩ := r
      exact ⟨a, [v1, v2], e, l.sqT h, rfl, v1, [v2], rfl, v2, [], rfl, rfl, k (v1, v2) ⟨t.of g1, u.of g2⟩ ⟨⟨m, g1⟩, g2⟩⟩, fun m => m.1.1⟩

/-- what holds between two turns: some γ with J, the slots and facts that go with it -/
def Lp {γ : Type} (B : Bs) (N : Asr) (J : γ → Prop) (Xg : γ → Asr) (Og : γ → List (Addr × HO)) (sg : γ → L2.St) : L2.St → Hp → Prop := fun σ H => ∃ g, J g ∧ σ = sg g ∧ At B (N.and (Xg g)) (Og g) H
theorem st_turn {γ : Type} {B : Bs} {N M' : Asr} {J : γ → Prop} {Xg : γ → Asr} {Og : γ → List (Addr × HO)} {sg : γ → L2.St} {D : Ends} {O' : List (Addr × HO)} {σ' : L2.St} (hD : D.nx = Lp B N J Xg Og sg) (g : γ) (hJ : J g) (hX : ∀ G, M'.p G → (Xg g).p G) (hs : σ' = sg g := by rfl) (hO : O' = Og g := by rfl) [h : Sub M' N] :
    St B M' O' tNext D σ' := fun G H m e w => by
  show D.nx σ' H
  rw [hD]
  exact ⟨g, hJ, hs, G, ⟨h.sub m, hX G m⟩, e, hO ▸ w⟩
section
variable {B : Bs} {M N : Asr} {O : List (Addr × HO)} {σ : L2.St} {K : PySem.W.Frag} {α β Ω γ : Type} {t : Ty α} {u : Ty β} {te tl : TE} {wi : TI} {g : TG} {tb tz : TS} {D : Ends}
/-- the loop itself -/
theorem for_core {J : It} {Gd : Hp → Prop} {Y : Nat → Hp → V → Hp → Prop} {xs : List α} {H : Hp} (w : Walk J xs.length Gd Y) (gd : ∀ {G H}, N.p G → B.R G H → Gd H)
    (yd : ∀ {i H v H2 G}, N.p G → B.R G H → Y i H v H2 → ∃ G2 x, Ext G H G2 H2 ∧ xs[i]? = some x ∧ t.r G2 v x) (tg : Tgt g t Ω)
    (Jv : Nat → γ → Prop) (Xg : γ → Asr) (Og : γ → List (Addr × HO)) (sg : γ → L2.St) (g0 : γ) (j0 : Jv 0 g0) (a0 : At B (N.and (Xg g0)) (Og g0) H)
    (hs : ∀ i x ω c, xs[i]? = some x → tg.ok ω x → Jv i c → St B (tg.F (N.and (Xg c)) ω x) (Og c) tb { D with nx := Lp B N (Jv (i + 1)) Xg Og sg, ct := Lp B N (Jv (i + 1)) Xg Og sg, bk := D.nx } (tg.put ω (sg c)))
    (hd : ∀ c, Jv xs.length c → St B (N.and (Xg c)) (Og c) tNext D (sg c)) :
    ∃ W : Nat → Nat → L2.St → Hp → Prop, (∃ m, W 0 m (sg g0) H) ∧ ∀ i m σ H, W i m σ H →
      (J.stop i H ∧ D.nx σ H) ∨ (J.go i H ∧ ∃ N : L2.St → Hp → Prop, (∀ σ' H', N σ' H' → ∃ m', m' < m ∧ W (i + 1) m' σ' H') ∧ ∀ x H', J.yld i H x H' → g x σ H' fun σ2 H2 => tb { D with nx := N, ct := N, bk := D.nx } σ2 H2) := by
  refine for_it w (fun i => Lp B N (Jv i) Xg Og sg) ⟨g0, j0, rfl, a0⟩ (fun i σ H _ ⟨c, _, _, G, m, e, _⟩ => gd m.1 e) ?_ ?_
  · rintro i v σ H H' hi ⟨c, jc, rfl, G, m, e, o⟩ y
    obtain ⟨G2, x, e2, hx, r⟩ := yd m.1 e y
    exact tg.run ((N.and (Xg c)).mono (e2.le (B.le e)) m) e2.gh r fun ω k f => hs i x ω c hx k jc G2 H' f (B.ext e e2) (o.ext e2)
  · rintro σ H ⟨c, jc, rfl, G, m, e, o⟩
    exact hd c jc G H m e o
end
section
variable {B : Bs} {M : Asr} {O : List (Addr × HO)} {σ : L2.St} {K : PySem.W.Frag} {α β Ω γ : Type} {t : Ty α} {u : Ty β} {te tl : TE} {g : TG} {tb tz : TS} {D : Ends}
/-- for x in a list -/
theorem st_forL {xs : List α} (tg : Tgt g t Ω) (Jv : Nat → γ → Prop) (Xg : γ → Asr) (Og : γ → List (Addr × HO)) (sg : γ → L2.St) (h : Ev M O σ (tLst K t) tl xs) (g0 : γ) (j0 : Jv 0 g0) (x0 : ∀ G, M.p G → (Xg g0).p G)
    (hs : ∀ (L : Asr) i x ω c, xs[i]? = some x → tg.ok ω x → Jv i c → St B (tg.F ((M.and L).and (Xg c)) ω x) (Og c) tb { D with nx := Lp B (M.and L) (Jv (i + 1)) Xg Og sg, ct := Lp B (M.and L) (Jv (i + 1)) Xg Og sg, bk := tz D } (tg.put ω (sg c)))
    (hd : ∀ (L : Asr) c, Jv xs.length c → St B ((M.and L).and (Xg c)) (Og c) tz D (sg c)) (s0 : σ = sg g0 := by rfl) (o0 : O = Og g0 := by rfl) : St B M O (tSeq (tFor (iList K tl) g tb) tz) D σ := fun G H m e w =>
  h G H m (w.wl e) _ fun v G1 H1 e1 ⟨a, vs, ev, hq, fa, z⟩ => by
    subst ev
    have eB := B.ext e e1
    subst s0 o0
    have hn := fa.length
    refine ⟨a, rfl, ⟨vs, e1.gh.sqL hq⟩, ?_⟩
    refine for_core (D := { D with nx := tz D }) (N := M.and ⟨fun G => SqL K G a vs ∧ Fa (t.r G) vs xs, fun l x => ⟨l.sqL x.1, x.2.imp fun _ _ => t.mono l⟩⟩) (xs := xs) (t := t) (hn ▸ walk_list (K := K) (a := a) (xs := vs)) (fun m e => (B.le e).sqL m.2.1) (fun {i H v H2 G} m e y => ?_) tg Jv Xg Og sg g0 j0
      ⟨G1, ⟨⟨M.mono (e1.le (B.le e)) m, hq, fa⟩, x0 G1 (M.mono (e1.le (B.le e)) m)⟩, eB, w.ext e1⟩ (fun i x ω c => hs _ i x ω c) (fun c jc => hd _ c jc)
    obtain ⟨rfl, y2⟩ := y
    obtain ⟨x, hx, r⟩ := m.2.2.get y2
    exact ⟨G, x, .refl (B.le e), hx, r⟩
/-- for x in a tuple -/
theorem st_forT {xs : List α} (tg : Tgt g t Ω) (Jv : Nat → γ → Prop) (Xg : γ → Asr) (Og : γ → List (Addr × HO)) (sg : γ → L2.St) (h : Ev M O σ (tTup K t) tl xs) (g0 : γ) (j0 : Jv 0 g0) (x0 : ∀ G, M.p G → (Xg g0).p G)
    (hs : ∀ (L : Asr) i x ω c, xs[i]? = some x → tg.ok ω x → Jv i c → St B (tg.F ((M.and L).and (Xg c)) ω x) (Og c) tb { D with nx := Lp B (M.and L) (Jv (i + 1)) Xg Og sg, ct := Lp B (M.and L) (Jv (i + 1)) Xg Og sg, bk := tz D } (tg.put ω (sg c)))
    (hd : ∀ (L : Asr) c, Jv xs.length c → St B ((M.and L).and (Xg c)) (Og c) tz D (sg c)) (s0 : σ = sg g0 := by rfl) (o0 : O = Og g0 := by rfl) : St B M O (tSeq (tFor (iTup K tl) g tb) tz) D σ := fun G H m e w =>
  h G H m (w.wl e) _ fun v G1 H1 e1 ⟨a, vs, ev, hq, fa, z⟩ => by
    subst ev
    have eB := B.ext e e1
    subst s0 o0
    have hn := fa.length
    refine ⟨a, rfl, ⟨vs, e1.gh.sqT hq⟩, ?_⟩
    refine for_core (D := { D with nx := tz D }) (N := M.and ⟨fun G => SqT K G a vs ∧ Fa (t.r G) vs xs, fun l x => ⟨l.sqT x.1, x.2.imp fun _ _ => t.mono l⟩⟩) (xs := xs) (t := t) (hn ▸ walk_tup (K := K) (a := a) (xs := vs)) (fun m e => (B.le e).sqT m.2.1) (fun {i H v H2 G} m e y => ?_) tg Jv Xg Og sg g0 j0
      ⟨G1, ⟨⟨M.mono (e1.le (B.le e)) m, hq, fa⟩, x0 G1 (M.mono (e1.le (B.le e)) m)⟩, eB, w.ext e1⟩ (fun i x ω c => hs _ i x ω c) (fun c jc => hd _ c jc)
    obtain ⟨rfl, y2⟩ := y
    obtain ⟨x, hx, r⟩ := m.2.2.get y2
    exact ⟨G, x, .refl (B.le e), hx, r⟩
/-- for k in range(n) -/
theorem st_forR {n : Int} {j : Nat} {ta : TA} (Jv : Nat → γ → Prop) (Xg : γ → Asr) (Og : γ → List (Addr × HO)) (sg : γ → L2.St) (h : EvA M O σ (aCons tInt aNil) ta (n, ())) (hz : -(2 ^ 62) ≤ n ∧ n < 2 ^ 62) (g0 : γ) (j0 : Jv 0 g0) (x0 : ∀ G, M.p G → (Xg g0).p G)
    (hs : ∀ (i : Nat) c, (i : Int) < n → Jv i c → St B (M.and (Xg c)) (Og c) tb { D with nx := Lp B M (Jv (i + 1)) Xg Og sg, ct := Lp B M (Jv (i + 1)) Xg Og sg, bk := tz D } ((sg c).set j (some (.int (i : Int)))))
    (hd : ∀ c, Jv n.toNat c → St B (M.and (Xg c)) (Og c) tz D (sg c)) (s0 : σ = sg g0 := by rfl) (o0 : O = Og g0 := by rfl) : St B M O (tSeq (tFor (iRng1 ta) (gName j) tb) tz) D σ := fun G H m e w =>
  h G H m (w.wl e) _ fun vs G1 H1 e1 ⟨v, vs', ev, hv, hn⟩ => by
    have hv2 : v = V.int n := hv
    have hn2 : vs' = [] := hn
    subst hv2 hn2
    have eB := B.ext e e1
    subst s0 o0
    refine ⟨n, ev, hz.1, hz.2, ?_⟩
    refine for_it (g := gName j) (tb := tb) (D := { D with nx := tz D }) (walk_range (lo := 0) (n := n.toNat)) (fun i => Lp B M (Jv i) Xg Og sg) ⟨g0, j0, rfl, G1, ⟨M.mono (e1.le (B.le e)) m, x0 G1 (M.mono (e1.le (B.le e)) m)⟩, eB, w.ext e1⟩ (fun _ _ _ _ _ => trivial) ?_ ?_
    · rintro i v σ H H' hi ⟨c, jc, rfl, G, m, e, o⟩ ⟨rfl, rfl⟩
      have z : (0 : Int) + (i : Int) = (i : Int) := Int.zero_add _
      have q := hs i c (by omega) jc G _ m e o
      rw [← z] at q
      exact q
    · rintro σ H ⟨c, jc, rfl, G, m, e, o⟩
      exact hd c jc G H m e o
/-! ### dicts walked: locked, or already so -/
def tLockM (t : TS) : TS := fun D σ H => tLock t D σ H ∨ t D σ H
def tLockEM (t : TE) : TE := fun σ H Q => tLockE t σ H Q ∨ t σ H Q
theorem ps_lockM {X : Cx} {st : Stmt} {t : TS} (h : PS X st t) : PS X st (tLockM t) := ⟨fun pins s σ H D I hw => by
  rcases hw with hw | hw
  · exact (ps_lock h).run pins s σ H D I hw
  · exact h.run pins s σ H D I hw⟩
theorem pe_lockM {X : Cx} {e : Expr} {t : TE} (h : PE X e t) : PE X e (tLockEM t) := ⟨fun pins s σ H Q I hw => by
  rcases hw with hw | hw
  · exact (pe_lock h).run pins s σ H Q I hw
  · exact h.run pins s σ H Q I hw⟩
theorem st_lockAsg {i : Nat} {te : TE} (h : St B M O (tSeq (tAsg (tLockEM te) (gName i)) tz) D σ) : St B M O (tSeq (tLockM (tAsg te (gName i))) tz) D σ := fun G H m e w => h G H m e w
/-- one that is locked already -/
def Bs.keep (B : Bs) (d : Addr) (od : Obj) (kvs : List (Key × V)) : Bs where
  R := fun G H => H d = some (.frz od (.dK kvs)) ∧ B.R G H
  own := fun p => B.own p ∧ p ≠ d
  le := fun e => B.le e.2
  ext := fun e y => ⟨y.hh d _ e.1, B.ext e.2 y⟩
  set := fun h e g => ⟨by rw [upd_ne h.2.symm]; exact e.1, B.set h.1 e.2 g⟩
  new := fun e hp => ⟨B.new e.2 hp, (ne_of_none e.1 hp).symm⟩
  pub := fun h e hh g => ⟨e.1, B.pub h.1 e.2 hh g⟩
theorem own_lock {G H : Hp} {d : Addr} {od : Obj} {kvs : List (Key × V)} (w : Own B O G H) (hd : (G d).isSome = true) : Own (B.lock d od kvs) O G (upd H d (.frz od (.dK kvs))) :=
  ⟨w.1, fun po hm => by
    obtain ⟨a, b, c⟩ := w.2 po hm
    have ne : po.1 ≠ d := fun z => by
      rw [z] at b
      rw [b] at hd
      cases hd
    exact ⟨⟨a, ne⟩, b, by rw [upd_ne ne]; exact c⟩⟩
theorem own_unlock {G H : Hp} {d : Addr} {od : Obj} {kvs : List (Key × V)} (w : Own (B.lock d od kvs) O G H) : Own B O G (upd H d (.dK kvs)) :=
  ⟨w.1, fun po hm => by
    obtain ⟨a, b, c⟩ := w.2 po hm
    exact ⟨a.1, b, by rw [upd_ne a.2]; exact c⟩⟩
theorem own_keep {G H : Hp} {d : Addr} {od : Obj} {kvs : List (Key × V)} (w : Own B O G H) (hd : (G d).isSome = true) : Own (B.keep d od kvs) O G H :=
  ⟨w.1, fun po hm => by
    obtain ⟨a, b, c⟩ := w.2 po hm
    have ne : po.1 ≠ d := fun z => by
      rw [z] at b
      rw [b] at hd
      cases hd
    exact ⟨⟨a, ne⟩, b, c⟩⟩
theorem own_unkeep {G H : Hp} {d : Addr} {od : Obj} {kvs : List (Key × V)} (w : Own (B.keep d od kvs) O G H) : Own B O G H :=
  ⟨w.1, fun po hm => let ⟨a, b, c⟩ := w.2 po hm; ⟨a.1, b, c⟩⟩
theorem lock_R {G H : Hp} {d : Addr} {od : Obj} {kvs : List (Key × V)} (e : B.R G H) (hd : G d = some (.dK kvs)) (hh : H d = some (.dK kvs)) : (B.lock d od kvs).R G (upd H d (.frz od (.dK kvs))) :=
  ⟨upd_same, fun w h => by rw [hd] at h; exact (Option.some.inj h).symm, by
    have z : upd (upd H d (HO.frz od (.dK kvs))) d (.dK kvs) = H := by
      rw [upd_upd]
      funext b
      unfold upd
      split
      · rename_i q
        rw [q, hh]
      · rfl
    rw [z]
    exact e⟩
/-- how an inner base stands to an outer one -/
structure Inn (B B' : Bs) (d : Addr) (od : Obj) (kvs : List (Key × V)) (D D' : Ends) : Prop where
  frz : ∀ {G H}, B'.R G H → H d = some (.frz od (.dK kvs))
  ret : ∀ {β : Type} {u : Ty β} {R : β → Prop}, RetOk B u R D → RetOk B' u R D'
/-- a dict's place is known ahead of its evaluation -/
def EvD (M : Asr) (O : List (Addr × HO)) (σ : L2.St) {α : Type} (t : Ty α) (td : TE) (xs : List (Str × α)) : Prop := ∀ G H, M.p G → Wl O G H → ∃ d kvs, Rd G d (.dK kvs) ∧ Fa (kvR t G) kvs xs ∧ kvs.length ≤ sizeLine ∧ ∀ G' H', Le G G' → Le G' H' → ∀ Q : VK, Q (.ref d) H' → td σ H' Q
theorem evd_var {xs : List (Str × α)} {i : Nat} {v : V} (hs : σ[i]? = some (some v) := by rfl) [h : Has M v (tDct t) xs] : EvD M O σ t (tVar i) xs := fun G H m l => by
  obtain ⟨d, kvs, e, r, f, z⟩ := h.get m
  exact ⟨d, kvs, r, f, z, fun G' H' _ _ Q q => ⟨v, hs, by rw [e]; exact q⟩⟩
theorem evd_ix {xs : List (Str × α)} {i : Nat} {v : V} {n : Nat} (hs : σ[i]? = some (some v)) (h : ∀ G, M.p G → ∃ a vs d kvs, v = .ref a ∧ SqT K G a vs ∧ vs[n]? = some (.ref d) ∧ Rd G d (.dK kvs) ∧ Fa (kvR t G) kvs xs ∧ kvs.length ≤ sizeLine) : EvD M O σ t (tOp (rIxT K) (tVar i) (tC (.int (n : Int)))) xs := fun G H m l => by
  obtain ⟨a, vs, d, kvs, e, q, hn, r, f, z⟩ := h G m
  exact ⟨d, kvs, r, f, z, fun G' H' x y Q k => ⟨v, hs, a, vs, (n : Int), .ref d, e, rfl, y.sqT (x.sqT q), atI_nat hn, k⟩⟩
theorem evd_fst {xs : List (Str × α)} {y : β} {i : Nat} {v : V} (hs : σ[i]? = some (some v) := by rfl) [h : Has M v (tPair K (tDct t) u) (xs, y)] : EvD M O σ t (tOp (rIxT K) (tVar i) (tC (.int 0))) xs := evd_ix (n := 0) hs fun G m => by
  obtain ⟨a, v1, v2, e, q, ⟨d, kvs, e1, r, f, z⟩, _⟩ := h.get m
  exact ⟨a, [v1, v2], d, kvs, e, q, by rw [← e1]; rfl, r, f, z⟩
theorem evd_snd {xs : List (Str × α)} {y : β} {i : Nat} {v : V} (hs : σ[i]? = some (some v) := by rfl) [h : Has M v (tPair K u (tDct t)) (y, xs)] : EvD M O σ t (tOp (rIxT K) (tVar i) (tC (.int 1))) xs := evd_ix (n := 1) hs fun G m => by
  obtain ⟨a, v1, v2, e, q, _, ⟨d, kvs, e1, r, f, z⟩⟩ := h.get m
  exact ⟨a, [v1, v2], d, kvs, e, q, by rw [← e1]; rfl, r, f, z⟩
theorem evd_p2 {w : Ty Ω} {xs : List (Str × α)} {y : β} {c : Ω} {i : Nat} {v : V} (hs : σ[i]? = some (some v) := by rfl) [h : Has M v (tTrip K u (tDct t) w) (y, xs, c)] : EvD M O σ t (tOp (rIxT K) (tVar i) (tC (.int 1))) xs := evd_ix (n := 1) hs fun G m => by
  obtain ⟨a, v1, v2, v3, e, q, _, ⟨d, kvs, e1, r, f, z⟩, _⟩ := h.get m
  exact ⟨a, [v1, v2, v3], d, kvs, e, q, by rw [← e1]; rfl, r, f, z⟩
theorem evd_p3 {w : Ty Ω} {xs : List (Str × α)} {y : β} {c : Ω} {i : Nat} {v : V} (hs : σ[i]? = some (some v) := by rfl) [h : Has M v (tTrip K u w (tDct t)) (y, c, xs)] : EvD M O σ t (tOp (rIxT K) (tVar i) (tC (.int 2))) xs := evd_ix (n := 2) hs fun G m => by
  obtain ⟨a, v1, v2, v3, e, q, _, _, ⟨d, kvs, e1, r, f, z⟩⟩ := h.get m
  exact ⟨a, [v1, v2, v3], d, kvs, e, q, by rw [← e1]; rfl, r, f, z⟩
/-- the lock, the evaluation of the dict: what is left is the loop in the inner base -/
theorem dict_enter {ts : TS} {xs : List (Str × α)} {td : TE} {G H : Hp} (h : EvD M O σ t td xs) (m : M.p G) (e : B.R G H) (w : Own B O G H)
    (k : ∀ (B' : Bs) (D' : Ends) (d : Addr) (od : Obj) (kvs : List (Key × V)) (H' : Hp), Inn B B' d od kvs D D' → Rd G d (.dK kvs) → Fa (kvR t G) kvs xs → kvs.length ≤ sizeLine → B'.R G H' → Own B' O G H' →
      (∀ G' H', Le G G' → Le G' H' → ∀ Q : VK, Q (.ref d) H' → td σ H' Q) → (∀ O2 σ2 G2 H2, B'.R G2 H2 → Own B' O2 G2 H2 → (∀ H3, B.R G2 H3 → Own B O2 G2 H3 → D.nx σ2 H3) → D'.nx σ2 H2) → ts D' σ H') : tLockM ts D σ H := by
  obtain ⟨d, kvs, r, f, z, ev⟩ := h G H m (w.wl e)
  have hd : (G d).isSome = true := by rcases r with r | ⟨o, r⟩ <;> (rw [r]; rfl)
  have hr := (B.le e).rd r
  have fr : ∀ od, H d = some (.frz od (.dK kvs)) → tLockM ts D σ H := fun od ho => .inr (k (B.keep d od kvs) D d od kvs H ⟨fun e => e.1, fun k v y G' H' e hR r => k v y G' H' e.2 hR r⟩ r f z ⟨ho, e⟩ (own_keep w hd) ev (fun O2 σ2 G2 H2 e2 w2 c => c H2 e2.2 (own_unkeep w2)))
  rcases hr with hr | ⟨od, hr⟩
  · have gd : G d = some (.dK kvs) := by
      rcases r with r | ⟨o, r⟩
      · exact r
      · rcases B.le e d _ r with q | ⟨k2, o2, q, _⟩
        · rw [hr] at q
          cases q
        · cases q
    refine .inl ⟨d, .dK kvs, hr, trivial, fun od => ?_⟩
    exact k (B.lock d od kvs) _ d od kvs _ ⟨fun e => e.1, fun k v y G' H' e hR r => ⟨e.1, k v y G' _ e.2.2 hR r⟩⟩ r f z (lock_R e gd hr) (own_lock w hd) ev (fun O2 σ2 G2 H2 e2 w2 c => ⟨e2.1, c _ e2.2.2 (own_unlock w2)⟩)
  · exact fr od hr
/-- for k in d -/
theorem st_forK {xs : List (Str × α)} {td : TE} {j : Nat} (Jv : Nat → γ → Prop) (Xg : γ → Asr) (Og : γ → List (Addr × HO)) (sg : γ → L2.St) (h : EvD M O σ t td xs) (g0 : γ) (j0 : Jv 0 g0) (x0 : ∀ G, M.p G → (Xg g0).p G)
    (hs : ∀ (L : Asr) (B' : Bs) (D' : Ends), (∀ {β : Type} {u : Ty β} {R : β → Prop}, RetOk B u R D → RetOk B' u R D') → ∀ i k x c, xs[i]? = some (k, x) → Jv i c → St B' ((M.and L).and (Xg c)) (Og c) tb { D' with nx := Lp B' (M.and L) (Jv (i + 1)) Xg Og sg, ct := Lp B' (M.and L) (Jv (i + 1)) Xg Og sg, bk := D'.nx } ((sg c).set j (some (.str k))))
    (hd : ∀ (L : Asr) c, Jv xs.length c → St B ((M.and L).and (Xg c)) (Og c) tz D (sg c)) (s0 : σ = sg g0 := by rfl) (o0 : O = Og g0 := by rfl) : St B M O (tSeq (tLockM (tFor (iKeys td) (gName j) tb)) tz) D σ := fun G H m e w => by
  subst s0 o0
  refine dict_enter (D := { D with nx := tz D }) h m e w fun B' D' d od kvs H' inn r f z e' w' ev out => ?_
  refine ev G H' (.refl G) (B'.le e') _ ?_
  have hod := inn.frz e'
  refine ⟨d, od, rfl, .inl ⟨kvs, hod, ?_⟩⟩
  have hn := f.length
  refine for_core (D := D') (B := B') (N := M.and ⟨fun G => Rd G d (.dK kvs) ∧ Fa (kvR t G) kvs xs, fun l x => ⟨l.rd x.1, x.2.imp fun _ _ z => ⟨z.1, t.mono l z.2⟩⟩⟩) (xs := xs.map (·.1)) (t := tStr) (Gd := fun H => H d = some (.frz od (.dK kvs))) (Y := fun i H x H' => H' = H ∧ ∃ k v, kvs[i]? = some (k, v) ∧ x = kV k) ?w (fun _ e => inn.frz e) (fun {i H v H2 G} m e y => ?yd) (tgN tStr j) Jv Xg Og sg g0 j0 ⟨G, ⟨⟨m, r, f⟩, x0 G m⟩, e', w'⟩ ?hs ?hd
  case w =>
    rw [List.length_map, ← hn]
    exact walk_keys
  case yd =>
    obtain ⟨rfl, k, u, hk, rfl⟩ := y
    obtain ⟨x, hx, h1, h2⟩ := m.2.2.get hk
    exact ⟨G, x.1, .refl (B'.le e), by rw [List.getElem?_map, hx]; rfl, by rw [show k = .inr x.1 from h1]; rfl⟩
  case hs =>
    intro i k ω c hk hω jc
    obtain ⟨x, hx, ex⟩ : ∃ x, xs[i]? = some x ∧ x.1 = k := by
      rw [List.getElem?_map] at hk
      cases q : xs[i]? with
      | none => rw [q] at hk; cases hk
      | some x => rw [q] at hk; exact ⟨x, rfl, Option.some.inj hk⟩
    have hω2 : ω = V.str k := hω
    subst hω2
    have q := hs ⟨fun G => Rd G d (.dK kvs) ∧ Fa (kvR t G) kvs xs, fun l x => ⟨l.rd x.1, x.2.imp fun _ _ z => ⟨z.1, t.mono l z.2⟩⟩⟩ B' D' (fun k => inn.ret k) i k x.2 c (by rw [hx, ← ex]) jc
    exact q.weak fun _ m => m.1
  case hd =>
    intro c jc G2 H2 m2 e2 w2
    rw [List.length_map] at jc
    exact out (Og c) (sg c) G2 H2 e2 w2 fun H3 e3 w3 => hd _ c jc G2 H3 m2 e3 w3
/-- for k, v in d.items() -/
theorem st_forI {xs : List (Str × α)} {td : TE} (tg : Tgt g (tPair K tStr t) Ω) (Jv : Nat → γ → Prop) (Xg : γ → Asr) (Og : γ → List (Addr × HO)) (sg : γ → L2.St) (h : EvD M O σ t td xs) (g0 : γ) (j0 : Jv 0 g0) (x0 : ∀ G, M.p G → (Xg g0).p G)
    (hs : ∀ (L : Asr) (B' : Bs) (D' : Ends), (∀ {β : Type} {u : Ty β} {R : β → Prop}, RetOk B u R D → RetOk B' u R D') → ∀ i x ω c, xs[i]? = some x → tg.ok ω x → Jv i c → St B' (tg.F ((M.and L).and (Xg c)) ω x) (Og c) tb { D' with nx := Lp B' (M.and L) (Jv (i + 1)) Xg Og sg, ct := Lp B' (M.and L) (Jv (i + 1)) Xg Og sg, bk := D'.nx } (tg.put ω (sg c)))
    (hd : ∀ (L : Asr) c, Jv xs.length c → St B ((M.and L).and (Xg c)) (Og c) tz D (sg c)) (s0 : σ = sg g0 := by rfl) (o0 : O = Og g0 := by rfl) : St B M O (tSeq (tLockM (tFor (iItems td) g tb)) tz) D σ := fun G H m e w => by
  subst s0 o0
  refine dict_enter (D := { D with nx := tz D }) h m e w fun B' D' d od kvs H' inn r f z e' w' ev out => ?_
  refine ev G H' (.refl G) (B'.le e') _ ?_
  have hod := inn.frz e'
  refine ⟨d, od, kvs, rfl, hod, ?_⟩
  have hn := f.length
  refine for_core (D := D') (B := B') (N := M.and ⟨fun G => Rd G d (.dK kvs) ∧ Fa (kvR t G) kvs xs, fun l x => ⟨l.rd x.1, x.2.imp fun _ _ z => ⟨z.1, t.mono l z.2⟩⟩⟩) (xs := xs) (t := tPair K tStr t) (Gd := fun H => H d = some (.frz od (.dK kvs))) (hn ▸ walk_items (d := d) (o := od) (kvs := kvs)) (fun _ e => inn.frz e) (fun {i H v H2 G} m e y => ?yd) tg Jv Xg Og sg g0 j0 ⟨G, ⟨⟨m, r, f⟩, x0 G m⟩, e', w'⟩ ?hs ?hd
  case yd =>
    obtain ⟨T, x1, x2, rfl, hT, rfl, h1, h2⟩ := y
    dsimp only at h1 h2
    cases q : kvs[i]? with
    | none => rw [q] at h1; cases h1
    | some kv =>
      rw [q] at h1 h2
      obtain ⟨x, hx, r1, r2⟩ := m.2.2.get q
      have l1 := Ext.new (o := .tup [x1, x2]) (B'.le e) hT
      refine ⟨_, x, l1, hx, T, x1, x2, rfl, .of upd_same, ?_, ?_⟩
      · show x1 = V.str x.1
        have q1 : kV kv.1 = x1 := Option.some.inj h1
        rw [← q1, r1]
        rfl
      · have q2 : kv.2 = x2 := Option.some.inj h2
        have r3 := t.mono (l1.le (B'.le e)) r2
        rw [q2] at r3
        exact r3
  case hs =>
    intro i x ω c hk hω jc
    exact hs _ B' D' (fun k => inn.ret k) i x ω c hk hω jc
  case hd =>
    intro c jc G2 H2 m2 e2 w2
    exact out (Og c) (sg c) G2 H2 e2 w2 fun H3 e3 w3 => hd _ c jc G2 H3 m2 e3 w3
/-- for i, x in enumerate(a list) -/
theorem st_forE {xs : List α} {ta : TA} (tg : Tgt g (tPair K tInt t) Ω) (Jv : Nat → γ → Prop) (Xg : γ → Asr) (Og : γ → List (Addr × HO)) (sg : γ → L2.St) (h : EvA M O σ (aCons (tLst K t) aNil) ta (xs, ())) (g0 : γ) (j0 : Jv 0 g0) (x0 : ∀ G, M.p G → (Xg g0).p G)
    (hs : ∀ (L : Asr) (i : Nat) x ω c, xs[i]? = some x → tg.ok ω ((i : Int), x) → Jv i c → St B (tg.F ((M.and L).and (Xg c)) ω ((i : Int), x)) (Og c) tb { D with nx := Lp B (M.and L) (Jv (i + 1)) Xg Og sg, ct := Lp B (M.and L) (Jv (i + 1)) Xg Og sg, bk := tz D } (tg.put ω (sg c)))
    (hd : ∀ (L : Asr) c, Jv xs.length c → St B ((M.and L).and (Xg c)) (Og c) tz D (sg c)) (s0 : σ = sg g0 := by rfl) (o0 : O = Og g0 := by rfl) : St B M O (tSeq (tFor (iEnum K ta) g tb) tz) D σ := fun G H m e w =>
  h G H m (w.wl e) _ fun vs0 G1 H1 e1 ⟨v, vs', ev0, ⟨a, vs, ev, hq, fa, z⟩, hnil⟩ => by
    have hn2 : vs' = [] := hnil
    subst hn2 ev
    have eB := B.ext e e1
    subst s0 o0
    have hn := fa.length
    refine ⟨a, vs, ev0, e1.gh.sqL hq, ?_⟩
    refine for_core (D := { D with nx := tz D }) (N := M.and ⟨fun G => SqL K G a vs ∧ Fa (t.r G) vs xs, fun l x => ⟨l.sqL x.1, x.2.imp fun _ _ => t.mono l⟩⟩) (xs := (List.range xs.length).zip xs |>.map fun p => ((p.1 : Int), p.2)) (t := tPair K tInt t) (Gd := fun H => SqL K H a vs) (Y := YPair (fun i => some (.int (i : Nat))) (fun i => vs[i]?)) ?w (fun m e => (B.le e).sqL m.2.1) (fun {i H v H2 G} m e y => ?yd) tg Jv Xg Og sg g0 j0
      ⟨G1, ⟨⟨M.mono (e1.le (B.le e)) m, hq, fa⟩, x0 G1 (M.mono (e1.le (B.le e)) m)⟩, eB, w.ext e1⟩ (fun i x ω c hx => ?hs) (fun c jc => hd _ c (by rw [show ((List.range xs.length).zip xs |>.map fun p => ((p.1 : Int), p.2)).length = xs.length by simp] at jc; exact jc))
    case w =>
      rw [show ((List.range xs.length).zip xs |>.map fun p => ((p.1 : Int), p.2)).length = vs.length by simp [hn]]
      exact walk_enum
    case yd =>
      obtain ⟨T, x1, x2, rfl, hT, rfl, h1, h2⟩ := y
      obtain ⟨x, hx, r⟩ := m.2.2.get h2
      have l1 := Ext.new (o := .tup [x1, x2]) (B.le e) hT
      have hi : i < xs.length := (List.getElem?_eq_some_iff.mp hx).1
      refine ⟨_, ((i : Int), x), l1, ?_, T, x1, x2, rfl, .of upd_same, (Option.some.inj h1).symm, t.mono (l1.le (B.le e)) r⟩
      have q : ((List.range xs.length).zip xs)[i]? = some (i, x) := List.getElem?_zip_eq_some.mpr ⟨List.getElem?_range hi, hx⟩
      rw [List.getElem?_map, q]
      rfl
    case hs =>
      rw [List.getElem?_map] at hx
      cases q : ((List.range xs.length).zip xs)[i]? with
      | none => rw [q] at hx; cases hx
      | some p =>
        rw [q] at hx
        obtain ⟨h1, h2⟩ := List.getElem?_zip_eq_some.mp q
        have hi : i < xs.length := (List.getElem?_eq_some_iff.mp h2).1
        rw [List.getElem?_range hi] at h1
        have e1 : i = p.1 := Option.some.inj h1
        have e2 : x = ((i : Int), p.2) := by rw [e1]; exact (Option.some.inj hx).symm
        subst e2
        intro hω jc
        exact hs _ i p.2 ω c h2 hω jc
end
end G3
set_option maxRecDepth 100000
set_option maxHeartbeats 4000000
/-! G5: comprehensions. -/
namespace G3
open PySem L2
section
variable {B : Bs} {M N : Asr} {O : List (Addr × HO)} {σ : L2.St} {K : PySem.W.Frag} {α β Ω : Type} {t : Ty α} {u : Ty β} {te tl : TE} {g : TG} {tt : TT} {vs : List Nat} {D : Addr}
theorem lc_core3 {J : It} {Gd : Hp → Prop} {Y : Nat → Hp → V → Hp → Prop} {xs : List α} {G1 H1 : Hp} {Qd : Hp → Prop} (w : Walk J xs.length Gd Y) (gd : ∀ {G H}, N.p G → B.R G H → Gd H)
    (yd : ∀ {i H v H2 G}, N.p G → B.R G H → Y i H v H2 → ∃ G2 x, Ext G H G2 H2 ∧ xs[i]? = some x ∧ t.r G2 v x) (tg : Tgt g t Ω) (hwl : ∀ {G H}, B.R G H → Wl O G H) (f : α → Bool) (gx : α → β)
    (hw : ∀ ω, wipe (tg.put ω (wipe σ vs)) vs = wipe σ vs)
    (ht : ∀ (i : Nat) x ω, xs[i]? = some x → tg.ok ω x → EvT (tg.F N ω x) O (tg.put ω (wipe σ vs)) tt (f x))
    (he : ∀ (i : Nat) x ω, xs[i]? = some x → tg.ok ω x → f x = true → Ev (tg.F N ω x) O (tg.put ω (wipe σ vs)) u te (gx x)) (hz : xs.length ≤ sizeLine)
    (m0 : N.p G1) (e0 : B.R G1 H1) (d0 : H1 D = none)
    (hd : ∀ G H acc, N.p G → B.R G H → G D = none → H D = some (.lst acc) → Fa (u.r G) acc ((xs.filter f).map gx) → acc.length ≤ sizeLine → Qd H) :
    ∃ W : Nat → Nat → Hp → Prop, (∃ m, W 0 m (upd H1 D (.lst []))) ∧ ∀ i m H, W i m H →
      (J.stop i H ∧ Qd H) ∨ (J.go i H ∧ ∃ Nx : Hp → Prop, (∀ H', Nx H' → ∃ m', m' < m ∧ W (i + 1) m' H') ∧ ∀ x H', J.yld i H x H' → g x (wipe σ vs) H' fun σ2 H2 => wipe σ2 vs = wipe σ vs ∧ tt σ2 H2 fun b H3 =>
        if b = true then te σ2 H3 fun y H4 => ∃ acc, H4 D = some (.lst acc) ∧ acc.length < sizeLine ∧ Nx (upd H4 D (.lst (acc ++ [y]))) else Nx H3) := by
  have ow : B.own D := B.new e0 d0
  refine lc_it w (fun i H => ∃ G acc, N.p G ∧ B.R G H ∧ G D = none ∧ H D = some (.lst acc) ∧ Fa (u.r G) acc (((xs.take i).filter f).map gx) ∧ acc.length ≤ i)
    ⟨G1, [], m0, B.ext e0 (.newO (B.le e0) d0), (B.le e0).free d0, upd_same, .nil, Nat.le_refl _⟩ (fun i H _ ⟨G, _, m, e, _⟩ => gd m e) ?_ ?_
  · rintro i v H H' hi ⟨G, acc, m, e, g1, h1, fa, hl⟩ y
    obtain ⟨G2, x, e2, hx, r⟩ := yd m e y
    have m2 := N.mono (e2.le (B.le e)) m
    have eB2 := B.ext e e2
    obtain ⟨g2, h2⟩ := e2.own g1 h1
    have et : xs.take (i + 1) = xs.take i ++ [x] := by
      rw [List.take_add_one, hx]
      rfl
    refine tg.run m2 e2.gh r fun ω k F => ⟨hw ω, ?_⟩
    refine ht i x ω hx k G2 H' F (hwl eB2) _ fun G3 H3 e3 => ?_
    have eB3 := B.ext eB2 e3
    obtain ⟨g3, h3⟩ := e3.own g2 h2
    have F3 := (tg.F N ω x).mono (e3.le e2.gh) F
    cases hf : f x with
    | true =>
      rw [if_pos rfl]
      refine he i x ω hx k hf G3 H3 F3 (hwl eB3) _ fun z G4 H4 e4 r4 => ?_
      have eB4 := B.ext eB3 e4
      obtain ⟨g4, h4⟩ := e4.own g3 h3
      refine ⟨acc, h4, Nat.lt_of_le_of_lt hl (Nat.lt_of_lt_of_le hi hz), G4, acc ++ [z], ?_, B.set ow eB4 g4, g4, upd_same, ?_, by rw [List.length_append]; exact Nat.succ_le_succ hl⟩
      · exact tg.sub ((tg.F N ω x).mono (e4.le e3.gh) F3)
      · rw [et, List.filter_append, List.map_append, List.filter_cons, if_pos hf]
        exact (fa.imp fun _ _ => u.mono ((((e2.trans e3).trans e4)).le (B.le e))).append (.cons r4 .nil)
    | false =>
      rw [if_neg Bool.false_ne_true]
      refine ⟨G3, acc, tg.sub F3, eB3, g3, h3, ?_, Nat.le_succ_of_le hl⟩
      rw [et, List.filter_append, List.map_append, List.filter_cons, if_neg (by rw [hf]; exact Bool.false_ne_true), List.filter_nil, List.map_nil, List.append_nil]
      exact fa.imp fun _ _ => u.mono ((e2.trans e3).le (B.le e))
  · rintro H ⟨G, acc, m, e, g1, h1, fa, hl⟩
    rw [List.take_of_length_le (Nat.le_refl _)] at fa
    exact hd G H acc m e g1 h1 fa (Nat.le_trans hl hz)
/-- [e for x in a list if c] -/
theorem ev_lcL {xs : List α} (tg : Tgt g t Ω) (f : α → Bool) (gx : α → β) (h : Ev M O σ (tLst K t) tl xs)
    (ht : ∀ (L : Asr) x ω, x ∈ xs → tg.ok ω x → EvT (tg.F (M.and L) ω x) O (tg.put ω (wipe σ vs)) tt (f x))
    (he : ∀ (L : Asr) x ω, x ∈ xs → tg.ok ω x → f x = true → Ev (tg.F (M.and L) ω x) O (tg.put ω (wipe σ vs)) u te (gx x)) (hw : ∀ ω, wipe (tg.put ω (wipe σ vs)) vs = wipe σ vs := by intro _; rfl) :
    Ev M O σ (tLst K u) (tLc (iList K tl) g tt te vs) ((xs.filter f).map gx) := fun G H m l Q q =>
  h G H m l _ fun v G1 H1 e1 ⟨a, ws, ev, hq, fa, z⟩ => by
    subst ev
    refine ⟨a, rfl, ⟨ws, e1.gh.sqL hq⟩, fun D hD => ?_⟩
    have hn := fa.length
    refine lc_core3 (B := Bs.of G1 H1) (N := M.and ⟨fun G => SqL K G a ws ∧ Fa (t.r G) ws xs, fun l x => ⟨l.sqL x.1, x.2.imp fun _ _ => t.mono l⟩⟩) (xs := xs) (t := t) (u := u) (O := O) (hn ▸ walk_list (K := K) (a := a) (xs := ws)) (fun m e => e.gh.sqL m.2.1) (fun {i H v H2 G} m e y => ?_) tg (fun e => (l.ext e1).ext e) f gx hw
      (fun i x ω hx => ht _ x ω (List.mem_of_getElem? hx)) (fun i x ω hx => he _ x ω (List.mem_of_getElem? hx)) (hn ▸ z) ⟨M.mono (e1.le l.le) m, hq, fa⟩ (.refl e1.gh) hD fun G2 H2 acc m2 e2 g2 h2 fa2 z2 => ?_
    · obtain ⟨rfl, y2⟩ := y
      obtain ⟨x, hx, r⟩ := m.2.2.get y2
      exact ⟨G, x, .refl e.gh, hx, r⟩
    · have ep := e2.publish hD h2
      exact q _ _ H2 (e1.trans ep) ⟨D, acc, rfl, .of upd_same, fa2.imp fun _ _ => u.mono ((Le.refl G2).owned g2), z2⟩
theorem ev_lcT {xs : List α} (tg : Tgt g t Ω) (f : α → Bool) (gx : α → β) (h : Ev M O σ (tTup K t) tl xs)
    (ht : ∀ (L : Asr) x ω, x ∈ xs → tg.ok ω x → EvT (tg.F (M.and L) ω x) O (tg.put ω (wipe σ vs)) tt (f x))
    (he : ∀ (L : Asr) x ω, x ∈ xs → tg.ok ω x → f x = true → Ev (tg.F (M.and L) ω x) O (tg.put ω (wipe σ vs)) u te (gx x)) (hw : ∀ ω, wipe (tg.put ω (wipe σ vs)) vs = wipe σ vs := by intro _; rfl) :
    Ev M O σ (tLst K u) (tLc (iTup K tl) g tt te vs) ((xs.filter f).map gx) := fun G H m l Q q =>
  h G H m l _ fun v G1 H1 e1 ⟨a, ws, ev, hq, fa, z⟩ => by
    subst ev
    refine ⟨a, rfl, ⟨ws, e1.gh.sqT hq⟩, fun D hD => ?_⟩
    have hn := fa.length
    refine lc_core3 (B := Bs.of G1 H1) (N := M.and ⟨fun G => SqT K G a ws ∧ Fa (t.r G) ws xs, fun l x => ⟨l.sqT x.1, x.2.imp fun _ _ => t.mono l⟩⟩) (xs := xs) (t := t) (u := u) (O := O) (hn ▸ walk_tup (K := K) (a := a) (xs := ws)) (fun m e => e.gh.sqT m.2.1) (fun {i H v H2 G} m e y => ?_) tg (fun e => (l.ext e1).ext e) f gx hw
      (fun i x ω hx => ht _ x ω (List.mem_of_getElem? hx)) (fun i x ω hx => he _ x ω (List.mem_of_getElem? hx)) (hn ▸ z) ⟨M.mono (e1.le l.le) m, hq, fa⟩ (.refl e1.gh) hD fun G2 H2 acc m2 e2 g2 h2 fa2 z2 => ?_
    · obtain ⟨rfl, y2⟩ := y
      obtain ⟨x, hx, r⟩ := m.2.2.get y2
      exact ⟨G, x, .refl e.gh, hx, r⟩
    · have ep := e2.publish hD h2
      exact q _ _ H2 (e1.trans ep) ⟨D, acc, rfl, .of upd_same, fa2.imp fun _ _ => u.mono ((Le.refl G2).owned g2), z2⟩
/-- over a dict's keys, what goes on in either base -/
theorem lcK_core {B : Bs} {xs : List (Str × α)} {td : TE} {j : Nat} {d : Addr} {od : Obj} {kvs : List (Key × V)} {G H : Hp} {Q : VK} (f : Str → Bool) (gx : Str → β) (frz : ∀ {G H}, B.R G H → H d = some (.frz od (.dK kvs))) (hwl : ∀ {G H}, B.R G H → Wl O G H)
    (ht : ∀ (L : Asr) k x, (k, x) ∈ xs → EvT (M.and L) O ((wipe σ vs).set j (some (.str k))) tt (f k))
    (he : ∀ (L : Asr) k x, (k, x) ∈ xs → f k = true → Ev (M.and L) O ((wipe σ vs).set j (some (.str k))) u te (gx k)) (hw : ∀ v, wipe ((wipe σ vs).set j (some v)) vs = wipe σ vs)
    (m : M.p G) (e : B.R G H) (r : Rd G d (.dK kvs)) (fa : Fa (kvR t G) kvs xs) (z : kvs.length ≤ sizeLine) (ev : ∀ G' H', Le G G' → Le G' H' → ∀ Q : VK, Q (.ref d) H' → td σ H' Q)
    (q : ∀ D G2 H2 acc, H D = none → B.R G2 H2 → G2 D = none → H2 D = some (.lst acc) → Fa (u.r G2) acc (((xs.map (·.1)).filter f).map gx) → acc.length ≤ sizeLine → Q (.ref D) H2) : tLc (iKeys td) (gName j) tt te vs σ H Q := by
  refine ev G H (.refl G) (B.le e) _ ⟨d, od, rfl, .inl ⟨kvs, frz e, fun D hD => ?_⟩⟩
  have hn := fa.length
  have mem : ∀ {i : Nat} {k : Str}, (xs.map (·.1))[i]? = some k → ∃ x, xs[i]? = some (k, x) := fun {i k} hk => by
    rw [List.getElem?_map] at hk
    cases q : xs[i]? with
    | none => rw [q] at hk; cases hk
    | some x => rw [q] at hk; exact ⟨x.2, by rw [← (show x.1 = k from Option.some.inj hk)]⟩
  refine lc_core3 (B := B) (N := M.and ⟨fun G => Fa (kvR t G) kvs xs, fun l x => x.imp fun _ _ z => ⟨z.1, t.mono l z.2⟩⟩) (xs := xs.map (·.1)) (t := tStr) (u := u) (O := O) (Gd := fun H => H d = some (.frz od (.dK kvs))) (Y := fun i H x H' => H' = H ∧ ∃ k v, kvs[i]? = some (k, v) ∧ x = kV k) ?w (fun _ e => frz e) (fun {i H v H2 G} m e y => ?yd) (tgN tStr j) hwl f gx hw
    (fun i k ω hk ok => ?ht) (fun i k ω hk ok hf => ?he) ?z ⟨m, fa⟩ e hD fun G2 H2 acc m2 e2 g2 h2 fa2 z2 => q D G2 H2 acc hD e2 g2 h2 fa2 z2
  case w =>
    rw [List.length_map, ← hn]
    exact walk_keys
  case yd =>
    obtain ⟨rfl, k, u, hk, rfl⟩ := y
    obtain ⟨x, hx, h1, h2⟩ := m.2.get hk
    exact ⟨G, x.1, .refl (B.le e), by rw [List.getElem?_map, hx]; rfl, by rw [show k = .inr x.1 from h1]; rfl⟩
  case ht =>
    obtain ⟨x, hx⟩ := mem hk
    have o2 : ω = V.str k := ok
    subst o2
    exact fun G H m => ht _ k x (List.mem_of_getElem? hx) G H m.1
  case he =>
    obtain ⟨x, hx⟩ := mem hk
    have o2 : ω = V.str k := ok
    subst o2
    exact fun G H m => he _ k x (List.mem_of_getElem? hx) hf G H m.1
  case z =>
    rw [List.length_map, ← hn]
    exact z
theorem ev_lcK {xs : List (Str × α)} {td : TE} {j : Nat} (f : Str → Bool) (gx : Str → β) (h : EvD M O σ t td xs)
    (ht : ∀ (L : Asr) k x, (k, x) ∈ xs → EvT (M.and L) O ((wipe σ vs).set j (some (.str k))) tt (f k))
    (he : ∀ (L : Asr) k x, (k, x) ∈ xs → f k = true → Ev (M.and L) O ((wipe σ vs).set j (some (.str k))) u te (gx k)) (hw : ∀ v, wipe ((wipe σ vs).set j (some v)) vs = wipe σ vs := by intro _; rfl) :
    Ev M O σ (tLst K u) (tLockEM (tLc (iKeys td) (gName j) tt te vs)) (((xs.map (·.1)).filter f).map gx) := fun G H m l Q q => by
  obtain ⟨d, kvs, r, fa, z, ev⟩ := h G H m l
  have hd : (G d).isSome = true := by rcases r with r | ⟨o, r⟩ <;> (rw [r]; rfl)
  have nd : ∀ po ∈ O, po.1 ≠ d := fun po hp z => by
    have g := (l.ow po hp).1
    rw [z] at g
    rw [g] at hd
    cases hd
  rcases l.le.rd r with hr | ⟨od, hr⟩
  · have gd : G d = some (.dK kvs) := by
      rcases r with r | ⟨o, r⟩
      · exact r
      · rcases l.le d _ r with q | ⟨k2, o2, q, _⟩
        · rw [hr] at q
          cases q
        · cases q
    refine .inl ⟨d, .dK kvs, hr, trivial, fun od => ?_⟩
    refine lcK_core (B := (Bs.of G H).lock d od kvs) (t := t) (u := u) (O := O) f gx (fun e => e.1) (fun {G2 H2} e => ⟨Bs.le _ e, fun po hp => ?_⟩) ht he hw m (lock_R (B := Bs.of G H) (.refl l.le) gd hr) r fa z ev fun D G2 H2 acc hD e2 g2 h2 fa2 z2 => ⟨e2.1, ?_⟩
    · have x := (l.ext e.2.2).ow po hp
      rw [upd_ne (nd po hp)] at x
      exact x
    · have ne : D ≠ d := fun z => by
        rw [z, upd_same] at hD
        cases hD
      rw [upd_ne ne] at hD
      have ep := Ext.publish (o := .lst acc) e2.2.2 hD (by rw [upd_ne ne]; exact h2)
      exact q _ _ _ ep ⟨D, acc, rfl, .of upd_same, fa2.imp fun _ _ => u.mono ((Le.refl G2).owned g2), z2⟩
  · refine .inr (lcK_core (B := (Bs.of G H).keep d od kvs) (t := t) (u := u) (O := O) f gx (fun e => e.1) (fun e => l.ext e.2) ht he hw m ⟨hr, .refl l.le⟩ r fa z ev fun D G2 H2 acc hD e2 g2 h2 fa2 z2 => ?_)
    have ep := Ext.publish (o := .lst acc) e2.2 hD h2
    exact q _ _ _ ep ⟨D, acc, rfl, .of upd_same, fa2.imp fun _ _ => u.mono ((Le.refl G2).owned g2), z2⟩
end
end G3
set_option maxRecDepth 100000
set_option maxHeartbeats 4000000
/-! G6: defs and their promises, the class Held. -/
namespace G3
open PySem PySem.Spec PyProof.Rows L2
def top (i : Nat) : Stmt := PySem.Challenge.pw_mostlike_k47_whole_each_telling_of_sorts.main.body.getD i (.Pass ⟨0, 0, 0, 0⟩)

section
variable {P : Program} {w : World} {K : PySem.W.Frag} {mg : Str → Option Value} {base : Heap}
/-- a def of the module, with its parameters -/
structure Dn (K : PySem.W.Frag) (mg : Str → Option Value) (x : Str) (st : Stmt) (ps : List Str) : Prop where
  ex : ∃ (f : Addr) (fd : FuncData), C8.Def K mg x st f fd ∧ Binds K fd ps []
abbrev bodyX (P : Program) (w : World) (K : PySem.W.Frag) (mg : Str → Option Value) (base : Heap) (N : List Str) (x : Str) (st : Stmt) (f : Addr) (cdv : Value) (A : Around) (outer : List Env) (s : Shared) (H : Hp) (E : XK) : Cx := (cxOf C8.CX0 P w K mg base N x (C8.fnScope st) f cdv A outer s H E).nox
/-- a body's term for every call, and its reading -/
abbrev Body (P : Program) (w : World) (K : PySem.W.Frag) (mg : Str → Option Value) (base : Heap) (N : List Str) (x : Str) (st : Stmt) (k : Nat) (Z : TS → Prop) : Prop :=
  ∀ (f : Addr) (cdv : Value) (A : Around) (outer : List Env) (s : Shared) (H : Hp) (E : XK), Room k (A.deeper (envOfC x (C8.fnScope st) s.heap.objs.size f cdv)) → ∃ t, PSs (bodyX P w K mg base N x st f cdv A outer s H E) (C8.fnBody st) t ∧ Z t
def Z0 {β : Type} (pre : Prop) (u : Ty β) (R : β → Prop) (N : List Str) (t : TS) : Prop := ∀ (B : Bs) (D : Ends), pre → RetOk B u R D → (∀ σ H, D.rt .non H → D.nx σ H) → St B Asr.tt [] t D (start N [])
def Z1 {α β : Type} (t1 : Ty α) (pre : α × Unit → Prop) (u : Ty β) (R : α × Unit → β → Prop) (N : List Str) (t : TS) : Prop := ∀ (B : Bs) (D : Ends) (v1 : V) (x1 : α), t1.ok v1 x1 → pre (x1, ()) → RetOk B u (R (x1, ())) D → (∀ σ H, D.rt .non H → D.nx σ H) → St B (Asr.tt.is t1 v1 x1) [] t D (start N [v1])
def Z2 {α β γ : Type} (t1 : Ty α) (t2 : Ty γ) (pre : α × γ × Unit → Prop) (u : Ty β) (R : α × γ × Unit → β → Prop) (N : List Str) (t : TS) : Prop := ∀ (B : Bs) (D : Ends) (v1 v2 : V) (x1 : α) (x2 : γ), t1.ok v1 x1 → t2.ok v2 x2 → pre (x1, x2, ()) → RetOk B u (R (x1, x2, ())) D → (∀ σ H, D.rt .non H → D.nx σ H) → St B ((Asr.tt.is t1 v1 x1).is t2 v2 x2) [] t D (start N [v1, v2])
def Z3 {α β γ δ : Type} (t1 : Ty α) (t2 : Ty γ) (t3 : Ty δ) (pre : α × γ × δ × Unit → Prop) (u : Ty β) (R : α × γ × δ × Unit → β → Prop) (N : List Str) (t : TS) : Prop := ∀ (B : Bs) (D : Ends) (v1 v2 v3 : V) (x1 : α) (x2 : γ) (x3 : δ), t1.ok v1 x1 → t2.ok v2 x2 → t3.ok v3 x3 → pre (x1, x2, x3, ()) → RetOk B u (R (x1, x2, x3, ())) D → (∀ σ H, D.rt .non H → D.nx σ H) → St B (((Asr.tt.is t1 v1 x1).is t2 v2 x2).is t3 v3 x3) [] t D (start N [v1, v2, v3])
def Z4 {α β γ δ ε : Type} (t1 : Ty α) (t2 : Ty γ) (t3 : Ty δ) (t4 : Ty ε) (pre : α × γ × δ × ε × Unit → Prop) (u : Ty β) (R : α × γ × δ × ε × Unit → β → Prop) (N : List Str) (t : TS) : Prop := ∀ (B : Bs) (D : Ends) (v1 v2 v3 v4 : V) (x1 : α) (x2 : γ) (x3 : δ) (x4 : ε), t1.ok v1 x1 → t2.ok v2 x2 → t3.ok v3 x3 → t4.ok v4 x4 → pre (x1, x2, x3, x4, ()) → RetOk B u (R (x1, x2, x3, x4, ())) D → (∀ σ H, D.rt .non H → D.nx σ H) → St B ((((Asr.tt.is t1 v1 x1).is t2 v2 x2).is t3 v3 x3).is t4 v4 x4) [] t D (start N [v1, v2, v3, v4])
section
variable {x : Str} {st : Stmt} {N ps : List Str} {k : Nat} {α β γ δ ε ι : Type} {u : Ty β}
theorem fn_sp {A : TyA ι} {pre : ι → Prop} {R : ι → β → Prop} {qual : Str} {f : Addr} {fd : FuncData} (F : C8.Fun K x qual st f fd) (S : FnScope N ps (C8.fnScope st)) (hl : ∀ G vs i, A.r G vs i → vs.length = ps.length)
    (hbody : ∀ (cdv : Value) (A' : Around) (outer : List Env) (s : Shared) (H : Hp) (E : XK), Room k (A'.deeper (envOfC qual (C8.fnScope st) s.heap.objs.size f cdv)) →
      ∃ t, PSs (cxOf C8.CX0 P w K mg base N qual (C8.fnScope st) f cdv A' outer s H E).nox (C8.fnBody st) t ∧ ∀ (G : Hp) (vs : List V) (i : ι) (D : Ends), Le G H → A.r G vs i → pre i → RetOk (Bs.of G H) u (R i) D → (∀ σ H, D.rt .non H → D.nx σ H) → t D (start N vs) H) :
    FnOk P w K mg base C8.CX0 (k + 1) f fd ps (SpR A pre u R) := by
  refine C8.fn0 F S (fun vs H Q E ⟨G, i, _, h, _⟩ => hl G vs i h) fun cdv A' outer s H vs Q E hr h => ?_
  obtain ⟨t, ht, z⟩ := hbody cdv A' outer s H E hr
  obtain ⟨G, i, l, a, p, q⟩ := h
  exact ⟨t, ht, z G vs i _ l a p (fun v y G' H' e hR r => q v y G' H' e hR r) fun _ _ h => h⟩
theorem cal1 {t1 : Ty α} {pre : α × Unit → Prop} {R : α × Unit → β → Prop} {p1 : Str} (Dd : Dn K mg x st [p1]) (S : FnScope N [p1] (C8.fnScope st)) (h : Body P w K mg base N x st k (Z1 t1 pre u R N)) : C8.Cal P w K mg base (k + 1) x (SpR (aCons t1 aNil) pre u R) [] := by
  obtain ⟨f, fd, Df, b⟩ := Dd.ex
  refine ⟨f, fd, _, [], fn_sp Df.fn S (fun G vs i ⟨v1, _, e1, _, e2⟩ => by subst e1; have : _ = _ := e2; subst this; rfl) fun cdv A' outer s H E hr => ?_, Df.mgf, Df.kp, b, .nil⟩
  obtain ⟨t, ht, z⟩ := h f cdv A' outer s H E hr
  refine ⟨t, ht, fun G vs i D l a p q n => ?_⟩
  obtain ⟨v1, _, rfl, h1, e2⟩ := a
  have e3 : _ = _ := e2
  subst e3
  exact st_start (z (Bs.of G H) D v1 i.1 (t1.of h1) p q n) ⟨trivial, h1⟩ l
theorem cal2 {t1 : Ty α} {t2 : Ty γ} {pre : α × γ × Unit → Prop} {R : α × γ × Unit → β → Prop} {p1 p2 : Str} (Dd : Dn K mg x st [p1, p2]) (S : FnScope N [p1, p2] (C8.fnScope st)) (h : Body P w K mg base N x st k (Z2 t1 t2 pre u R N)) : C8.Cal P w K mg base (k + 1) x (SpR (aCons t1 (aCons t2 aNil)) pre u R) [] := by
  obtain ⟨f, fd, Df, b⟩ := Dd.ex
  refine ⟨f, fd, _, [], fn_sp Df.fn S (fun G vs i ⟨v1, _, e1, _, v2, _, e3, _, e2⟩ => by subst e1 e3; have : _ = _ := e2; subst this; rfl) fun cdv A' outer s H E hr => ?_, Df.mgf, Df.kp, b, .nil⟩
  obtain ⟨t, ht, z⟩ := h f cdv A' outer s H E hr
  refine ⟨t, ht, fun G vs i D l a p q n => ?_⟩
  obtain ⟨v1, _, rfl, h1, v2, _, rfl, h2, e2⟩ := a
  have e3 : _ = _ := e2
  subst e3
  exact st_start (z (Bs.of G H) D v1 v2 i.1 i.2.1 (t1.of h1) (t2.of h2) p q n) ⟨⟨trivial, h1⟩, h2⟩ l
theorem cal3 {t1 : Ty α} {t2 : Ty γ} {t3 : Ty δ} {pre : α × γ × δ × Unit → Prop} {R : α × γ × δ × Unit → β → Prop} {p1 p2 p3 : Str} (Dd : Dn K mg x st [p1, p2, p3]) (S : FnScope N [p1, p2, p3] (C8.fnScope st)) (h : Body P w K mg base N x st k (Z3 t1 t2 t3 pre u R N)) : C8.Cal P w K mg base (k + 1) x (SpR (aCons t1 (aCons t2 (aCons t3 aNil))) pre u R) [] := by
  obtain ⟨f, fd, Df, b⟩ := Dd.ex
  refine ⟨f, fd, _, [], fn_sp Df.fn S (fun G vs i ⟨v1, _, e1, _, v2, _, e3, _, v3, _, e4, _, e2⟩ => by subst e1 e3 e4; have : _ = _ := e2; subst this; rfl) fun cdv A' outer s H E hr => ?_, Df.mgf, Df.kp, b, .nil⟩
  obtain ⟨t, ht, z⟩ := h f cdv A' outer s H E hr
  refine ⟨t, ht, fun G vs i D l a p q n => ?_⟩
  obtain ⟨v1, _, rfl, h1, v2, _, rfl, h2, v3, _, rfl, h3, e2⟩ := a
  have e3 : _ = _ := e2
  subst e3
  exact st_start (z (Bs.of G H) D v1 v2 v3 i.1 i.2.1 i.2.2.1 (t1.of h1) (t2.of h2) (t3.of h3) p q n) ⟨⟨⟨trivial, h1⟩, h2⟩, h3⟩ l
theorem cal4 {t1 : Ty α} {t2 : Ty γ} {t3 : Ty δ} {t4 : Ty ε} {pre : α × γ × δ × ε × Unit → Prop} {R : α × γ × δ × ε × Unit → β → Prop} {p1 p2 p3 p4 : Str} (Dd : Dn K mg x st [p1, p2, p3, p4]) (S : FnScope N [p1, p2, p3, p4] (C8.fnScope st)) (h : Body P w K mg base N x st k (Z4 t1 t2 t3 t4 pre u R N)) : C8.Cal P w K mg base (k + 1) x (SpR (aCons t1 (aCons t2 (aCons t3 (aCons t4 aNil)))) pre u R) [] := by
  obtain ⟨f, fd, Df, b⟩ := Dd.ex
  refine ⟨f, fd, _, [], fn_sp Df.fn S (fun G vs i ⟨v1, _, e1, _, v2, _, e3, _, v3, _, e4, _, v4, _, e5, _, e2⟩ => by subst e1 e3 e4 e5; have : _ = _ := e2; subst this; rfl) fun cdv A' outer s H E hr => ?_, Df.mgf, Df.kp, b, .nil⟩
  obtain ⟨t, ht, z⟩ := h f cdv A' outer s H E hr
  refine ⟨t, ht, fun G vs i D l a p q n => ?_⟩
  obtain ⟨v1, _, rfl, h1, v2, _, rfl, h2, v3, _, rfl, h3, v4, _, rfl, h4, e2⟩ := a
  have e3 : _ = _ := e2
  subst e3
  exact st_start (z (Bs.of G H) D v1 v2 v3 v4 i.1 i.2.1 i.2.2.1 i.2.2.2.1 (t1.of h1) (t2.of h2) (t3.of h3) (t4.of h4) p q n) ⟨⟨⟨⟨trivial, h1⟩, h2⟩, h3⟩, h4⟩ l
end
end
end G3
set_option maxRecDepth 100000
set_option maxHeartbeats 0
/-! Head: what the top leaves. -/
namespace G3
open PySem PySem.Spec PyProof.Rows L2
def fa0 : List He.Fa := [.free "len",
  .free "isinstance",
  .free "list",
  .free "tuple",
  .free "dict",
  .free "str",
  .free "int",
  .free "bool",
  .free "enumerate",
  .free "range",
  .free "max",
  .free "min",
  .free "sum",
  .free "all",
  .glo "Held",
  .glo "Lists"]
def fa1 : List He.Fa := [.glo "WORDS",
  .glo "checked",
  .glo "row_by",
  .glo "place_in",
  .glo "need_held",
  .glo "first_group",
  .glo "firsts_wishes",
  .glo "in_order",
  .glo "has_room",
  .glo "reach",
  .glo "led",
  .glo "rooms_of",
  .glo "grown",
  .glo "greatest_firsts",
  .glo "firsts_without",
  .glo "sorts_paper"]
def fa2 : List He.Fa := [.glo "sorts",
  .glo "key_faults",
  .glo "faults",
  .glo "is_dealing",
  .glo "is_told_of",
  .glo "are_sorts",
  .glo "first_pairs",
  .glo "holders_with",
  .glo "paired_with_group",
  .glo "is_firsts",
  .glo "sorts_fit",
  .glo "are_loose_papers",
  .glo "sorts_hold",
  .glo "is_whole",
  .glo "is_within",
  .glo "are_signs"]
def fa3 : List He.Fa := [.glo "is_name",
  .glo "head_fault",
  .glo "is_group",
  .glo "names_in",
  .glo "groups_shaped",
  .glo "many_fault",
  .glo "many_shaped",
  .glo "groups_fault",
  .glo "need_known",
  .glo "_law_take",
  .glo "_law_cell",
  .glo "_law_box",
  .glo "_law_names",
  .glo "_law_list",
  .glo "_law_world",
  .glo "_law_lists"]
def fa4 : List He.Fa := [.glo "_law_ranks",
  .glo "_law_chosen",
  .glo "_law_holders",
  .glo "_law_is_dealing",
  .glo "_law_has_room",
  .glo "_law_firsts",
  .glo "_law_is_firsts",
  .glo "_law_told_of",
  .glo "_law_dealings",
  .glo "_law_fit",
  .glo "_law_papers_right",
  .glo "_law_sorts_right",
  .glo "_law_many",
  .glo "_law_best",
  .glo "_law_paper",
  .glo "_law_tellings"]
def fa5 : List He.Fa := [.glo "_law_asked",
  .glo "_law_all_right",
  .glo "_law_one_otherwise",
  .glo "law",
  .cls "Held",
  .noat "Held" "folk",
  .noat "Held" "spots",
  .mkr "Held",
  .meth "Held" "checked_places",
  .meth "Held" "need_known_people",
  .meth "Held" "people",
  .meth "Held" "places",
  .meth "Held" "is_person",
  .meth "Held" "is_place",
  .meth "Held" "person_row",
  .meth "Held" "place_row"]
def fa6 : List He.Fa := [.meth "Held" "groups_of",
  .meth "Held" "holders",
  .meth "Held" "places_vote",
  .meth "Held" "rank",
  .meth "Held" "is_pair",
  .meth "Lists" "__init__"]
def fa : List He.Fa := fa0 ++ (fa1 ++ (fa2 ++ (fa3 ++ (fa4 ++ (fa5 ++ (fa6))))))
def fn0 : List He.DefD := [⟨("checked", none), "checked", "checked", C8.fnArgs (top 44), C8.fnBody (top 44), C8.fnScope (top 44), [], []⟩,
  ⟨("row_by", none), "row_by", "row_by", C8.fnArgs (top 54), C8.fnBody (top 54), C8.fnScope (top 54), [], []⟩,
  ⟨("place_in", none), "place_in", "place_in", C8.fnArgs (top 53), C8.fnBody (top 53), C8.fnScope (top 53), [], []⟩,
  ⟨("need_held", none), "need_held", "need_held", C8.fnArgs (top 22), C8.fnBody (top 22), C8.fnScope (top 22), [], []⟩,
  ⟨("first_group", none), "first_group", "first_group", C8.fnArgs (top 23), C8.fnBody (top 23), C8.fnScope (top 23), [], []⟩,
  ⟨("firsts_wishes", none), "firsts_wishes", "firsts_wishes", C8.fnArgs (top 24), C8.fnBody (top 24), C8.fnScope (top 24), [], []⟩,
  ⟨("in_order", none), "in_order", "in_order", C8.fnArgs (top 19), C8.fnBody (top 19), C8.fnScope (top 19), [], []⟩,
  ⟨("has_room", none), "has_room", "has_room", C8.fnArgs (top 14), C8.fnBody (top 14), C8.fnScope (top 14), [], []⟩,
  ⟨("reach", none), "reach", "reach", C8.fnArgs (top 15), C8.fnBody (top 15), C8.fnScope (top 15), [], []⟩,
  ⟨("led", none), "led", "led", C8.fnArgs (top 16), C8.fnBody (top 16), C8.fnScope (top 16), [], []⟩]
def fn1 : List He.DefD := [⟨("rooms_of", none), "rooms_of", "rooms_of", C8.fnArgs (top 18), C8.fnBody (top 18), C8.fnScope (top 18), [], []⟩,
  ⟨("grown", none), "grown", "grown", C8.fnArgs (top 17), C8.fnBody (top 17), C8.fnScope (top 17), [], []⟩,
  ⟨("greatest_firsts", none), "greatest_firsts", "greatest_firsts", C8.fnArgs (top 25), C8.fnBody (top 25), C8.fnScope (top 25), [], []⟩,
  ⟨("firsts_without", none), "firsts_without", "firsts_without", C8.fnArgs (top 26), C8.fnBody (top 26), C8.fnScope (top 26), [], []⟩,
  ⟨("sorts_paper", none), "sorts_paper", "sorts_paper", C8.fnArgs (top 27), C8.fnBody (top 27), C8.fnScope (top 27), [], []⟩,
  ⟨("sorts", none), "sorts", "sorts", C8.fnArgs (top 28), C8.fnBody (top 28), C8.fnScope (top 28), [], []⟩,
  ⟨("key_faults", none), "key_faults", "key_faults", C8.fnArgs (top 10), C8.fnBody (top 10), C8.fnScope (top 10), [], []⟩,
  ⟨("faults", none), "faults", "faults", C8.fnArgs (top 11), C8.fnBody (top 11), C8.fnScope (top 11), [], []⟩,
  ⟨("is_dealing", none), "is_dealing", "is_dealing", C8.fnArgs (top 12), C8.fnBody (top 12), C8.fnScope (top 12), [], []⟩,
  ⟨("is_told_of", none), "is_told_of", "is_told_of", C8.fnArgs (top 29), C8.fnBody (top 29), C8.fnScope (top 29), [], []⟩]
def fn2 : List He.DefD := [⟨("are_sorts", none), "are_sorts", "are_sorts", C8.fnArgs (top 30), C8.fnBody (top 30), C8.fnScope (top 30), [], []⟩,
  ⟨("first_pairs", none), "first_pairs", "first_pairs", C8.fnArgs (top 31), C8.fnBody (top 31), C8.fnScope (top 31), [], []⟩,
  ⟨("holders_with", none), "holders_with", "holders_with", C8.fnArgs (top 33), C8.fnBody (top 33), C8.fnScope (top 33), [], []⟩,
  ⟨("paired_with_group", none), "paired_with_group", "paired_with_group", C8.fnArgs (top 34), C8.fnBody (top 34), C8.fnScope (top 34), [], []⟩,
  ⟨("is_firsts", none), "is_firsts", "is_firsts", C8.fnArgs (top 35), C8.fnBody (top 35), C8.fnScope (top 35), [], []⟩,
  ⟨("sorts_fit", none), "sorts_fit", "sorts_fit", C8.fnArgs (top 32), C8.fnBody (top 32), C8.fnScope (top 32), [], []⟩,
  ⟨("are_loose_papers", none), "are_loose_papers", "are_loose_papers", C8.fnArgs (top 36), C8.fnBody (top 36), C8.fnScope (top 36), [], []⟩,
  ⟨("sorts_hold", none), "sorts_hold", "sorts_hold", C8.fnArgs (top 37), C8.fnBody (top 37), C8.fnScope (top 37), [], []⟩,
  ⟨("is_whole", none), "is_whole", "is_whole", C8.fnArgs (top 39), C8.fnBody (top 39), C8.fnScope (top 39), [], []⟩,
  ⟨("is_within", none), "is_within", "is_within", C8.fnArgs (top 40), C8.fnBody (top 40), C8.fnScope (top 40), [], []⟩]
def fn3 : List He.DefD := [⟨("are_signs", none), "are_signs", "are_signs", C8.fnArgs (top 41), C8.fnBody (top 41), C8.fnScope (top 41), [], []⟩,
  ⟨("is_name", none), "is_name", "is_name", C8.fnArgs (top 42), C8.fnBody (top 42), C8.fnScope (top 42), [], []⟩,
  ⟨("head_fault", none), "head_fault", "head_fault", C8.fnArgs (top 45), C8.fnBody (top 45), C8.fnScope (top 45), [], []⟩,
  ⟨("is_group", none), "is_group", "is_group", C8.fnArgs (top 46), C8.fnBody (top 46), C8.fnScope (top 46), [], []⟩,
  ⟨("names_in", none), "names_in", "names_in", C8.fnArgs (top 47), C8.fnBody (top 47), C8.fnScope (top 47), [], []⟩,
  ⟨("groups_shaped", none), "groups_shaped", "groups_shaped", C8.fnArgs (top 49), C8.fnBody (top 49), C8.fnScope (top 49), [], []⟩,
  ⟨("many_fault", none), "many_fault", "many_fault", C8.fnArgs (top 50), C8.fnBody (top 50), C8.fnScope (top 50), [], []⟩,
  ⟨("many_shaped", none), "many_shaped", "many_shaped", C8.fnArgs (top 51), C8.fnBody (top 51), C8.fnScope (top 51), [], []⟩,
  ⟨("groups_fault", none), "groups_fault", "groups_fault", C8.fnArgs (top 48), C8.fnBody (top 48), C8.fnScope (top 48), [], []⟩,
  ⟨("need_known", none), "need_known", "need_known", C8.fnArgs (top 52), C8.fnBody (top 52), C8.fnScope (top 52), [], []⟩]
def fn4 : List He.DefD := [⟨("_law_take", none), "_law_take", "_law_take", C8.fnArgs (top 60), C8.fnBody (top 60), C8.fnScope (top 60), [], []⟩,
  ⟨("_law_cell", none), "_law_cell", "_law_cell", C8.fnArgs (top 58), C8.fnBody (top 58), C8.fnScope (top 58), [], []⟩,
  ⟨("_law_box", none), "_law_box", "_law_box", C8.fnArgs (top 59), C8.fnBody (top 59), C8.fnScope (top 59), [], []⟩,
  ⟨("_law_names", none), "_law_names", "_law_names", C8.fnArgs (top 61), C8.fnBody (top 61), C8.fnScope (top 61), [], []⟩,
  ⟨("_law_list", none), "_law_list", "_law_list", C8.fnArgs (top 62), C8.fnBody (top 62), C8.fnScope (top 62), [], []⟩,
  ⟨("_law_world", none), "_law_world", "_law_world", C8.fnArgs (top 63), C8.fnBody (top 63), C8.fnScope (top 63), [], []⟩,
  ⟨("_law_lists", none), "_law_lists", "_law_lists", C8.fnArgs (top 64), C8.fnBody (top 64), C8.fnScope (top 64), [], []⟩,
  ⟨("_law_ranks", none), "_law_ranks", "_law_ranks", C8.fnArgs (top 65), C8.fnBody (top 65), C8.fnScope (top 65), [], []⟩,
  ⟨("_law_chosen", none), "_law_chosen", "_law_chosen", C8.fnArgs (top 66), C8.fnBody (top 66), C8.fnScope (top 66), [], []⟩,
  ⟨("_law_holders", none), "_law_holders", "_law_holders", C8.fnArgs (top 67), C8.fnBody (top 67), C8.fnScope (top 67), [], []⟩]
def fn5 : List He.DefD := [⟨("_law_is_dealing", none), "_law_is_dealing", "_law_is_dealing", C8.fnArgs (top 68), C8.fnBody (top 68), C8.fnScope (top 68), [], []⟩,
  ⟨("_law_has_room", none), "_law_has_room", "_law_has_room", C8.fnArgs (top 70), C8.fnBody (top 70), C8.fnScope (top 70), [], []⟩,
  ⟨("_law_firsts", none), "_law_firsts", "_law_firsts", C8.fnArgs (top 71), C8.fnBody (top 71), C8.fnScope (top 71), [], []⟩,
  ⟨("_law_is_firsts", none), "_law_is_firsts", "_law_is_firsts", C8.fnArgs (top 72), C8.fnBody (top 72), C8.fnScope (top 72), [], []⟩,
  ⟨("_law_told_of", none), "_law_told_of", "_law_told_of", C8.fnArgs (top 73), C8.fnBody (top 73), C8.fnScope (top 73), [], []⟩,
  ⟨("_law_dealings", none), "_law_dealings", "_law_dealings", C8.fnArgs (top 69), C8.fnBody (top 69), C8.fnScope (top 69), [], []⟩,
  ⟨("_law_fit", none), "_law_fit", "_law_fit", C8.fnArgs (top 74), C8.fnBody (top 74), C8.fnScope (top 74), [], []⟩,
  ⟨("_law_papers_right", none), "_law_papers_right", "_law_papers_right", C8.fnArgs (top 75), C8.fnBody (top 75), C8.fnScope (top 75), [], []⟩,
  ⟨("_law_sorts_right", none), "_law_sorts_right", "_law_sorts_right", C8.fnArgs (top 76), C8.fnBody (top 76), C8.fnScope (top 76), [], []⟩,
  ⟨("_law_many", none), "_law_many", "_law_many", C8.fnArgs (top 77), C8.fnBody (top 77), C8.fnScope (top 77), [], []⟩]
def fn6 : List He.DefD := [⟨("_law_best", none), "_law_best", "_law_best", C8.fnArgs (top 78), C8.fnBody (top 78), C8.fnScope (top 78), [], []⟩,
  ⟨("_law_paper", none), "_law_paper", "_law_paper", C8.fnArgs (top 79), C8.fnBody (top 79), C8.fnScope (top 79), [], []⟩,
  ⟨("_law_tellings", none), "_law_tellings", "_law_tellings", C8.fnArgs (top 80), C8.fnBody (top 80), C8.fnScope (top 80), [], []⟩,
  ⟨("_law_asked", none), "_law_asked", "_law_asked", C8.fnArgs (top 81), C8.fnBody (top 81), C8.fnScope (top 81), [], []⟩,
  ⟨("_law_all_right", none), "_law_all_right", "_law_all_right", C8.fnArgs (top 82), C8.fnBody (top 82), C8.fnScope (top 82), [], []⟩,
  ⟨("_law_one_otherwise", none), "_law_one_otherwise", "_law_one_otherwise", C8.fnArgs (top 83), C8.fnBody (top 83), C8.fnScope (top 83), [], []⟩,
  ⟨("law", none), "law", "law", C8.fnArgs (top 84), C8.fnBody (top 84), C8.fnScope (top 84), [], []⟩,
  ⟨("Held", some "checked_places"), "checked_places", "Held.checked_places", C8.fnArgs (inClass (top 56) 1), C8.fnBody (inClass (top 56) 1), C8.fnScope (inClass (top 56) 1), [], []⟩,
  ⟨("Held", some "need_known_people"), "need_known_people", "Held.need_known_people", C8.fnArgs (inClass (top 56) 2), C8.fnBody (inClass (top 56) 2), C8.fnScope (inClass (top 56) 2), [], []⟩,
  ⟨("Held", some "people"), "people", "Lists.people", C8.fnArgs (inClass (top 55) 5), C8.fnBody (inClass (top 55) 5), C8.fnScope (inClass (top 55) 5), [], []⟩]
def fn7 : List He.DefD := [⟨("Held", some "places"), "places", "Lists.places", C8.fnArgs (inClass (top 55) 6), C8.fnBody (inClass (top 55) 6), C8.fnScope (inClass (top 55) 6), [], []⟩,
  ⟨("Held", some "is_person"), "is_person", "Lists.is_person", C8.fnArgs (inClass (top 55) 7), C8.fnBody (inClass (top 55) 7), C8.fnScope (inClass (top 55) 7), [], []⟩,
  ⟨("Held", some "is_place"), "is_place", "Lists.is_place", C8.fnArgs (inClass (top 55) 8), C8.fnBody (inClass (top 55) 8), C8.fnScope (inClass (top 55) 8), [], []⟩,
  ⟨("Held", some "person_row"), "person_row", "Lists.person_row", C8.fnArgs (inClass (top 55) 9), C8.fnBody (inClass (top 55) 9), C8.fnScope (inClass (top 55) 9), [], []⟩,
  ⟨("Held", some "place_row"), "place_row", "Lists.place_row", C8.fnArgs (inClass (top 55) 10), C8.fnBody (inClass (top 55) 10), C8.fnScope (inClass (top 55) 10), [], []⟩,
  ⟨("Held", some "groups_of"), "groups_of", "Lists.groups_of", C8.fnArgs (inClass (top 55) 11), C8.fnBody (inClass (top 55) 11), C8.fnScope (inClass (top 55) 11), [], []⟩,
  ⟨("Held", some "holders"), "holders", "Held.holders", C8.fnArgs (inClass (top 56) 6), C8.fnBody (inClass (top 56) 6), C8.fnScope (inClass (top 56) 6), [], []⟩,
  ⟨("Held", some "places_vote"), "places_vote", "Held.places_vote", C8.fnArgs (inClass (top 56) 10), C8.fnBody (inClass (top 56) 10), C8.fnScope (inClass (top 56) 10), [], []⟩,
  ⟨("Held", some "rank"), "rank", "Lists.rank", C8.fnArgs (inClass (top 55) 14), C8.fnBody (inClass (top 55) 14), C8.fnScope (inClass (top 55) 14), [], []⟩,
  ⟨("Held", some "is_pair"), "is_pair", "Held.is_pair", C8.fnArgs (inClass (top 56) 8), C8.fnBody (inClass (top 56) 8), C8.fnScope (inClass (top 56) 8), [], []⟩]
def fn8 : List He.DefD := [⟨("Held", some "__init__"), "__init__", "Held.__init__", C8.fnArgs (inClass (top 56) 0), C8.fnBody (inClass (top 56) 0), C8.fnScope (inClass (top 56) 0), [], []⟩,
  ⟨("Lists", some "__init__"), "__init__", "Lists.__init__", C8.fnArgs (inClass (top 55) 0), C8.fnBody (inClass (top 55) 0), C8.fnScope (inClass (top 55) 0), [], []⟩]
def fn : List He.DefD := fn0 ++ (fn1 ++ (fn2 ++ (fn3 ++ (fn4 ++ (fn5 ++ (fn6 ++ (fn7 ++ (fn8))))))))
def names0 : List PySem.Str := ["_wall",
  "LikeError",
  "BadLists",
  "NoPerson",
  "NoPlace",
  "NoDealing",
  "NotHeld",
  "NotRanked",
  "key_faults",
  "faults",
  "is_dealing",
  "has_room"]
def names1 : List PySem.Str := ["reach",
  "led",
  "grown",
  "rooms_of",
  "in_order",
  "WORDS",
  "need_held",
  "first_group",
  "firsts_wishes",
  "greatest_firsts",
  "firsts_without",
  "sorts_paper"]
def names2 : List PySem.Str := ["sorts",
  "is_told_of",
  "are_sorts",
  "first_pairs",
  "sorts_fit",
  "holders_with",
  "paired_with_group",
  "is_firsts",
  "are_loose_papers",
  "sorts_hold",
  "is_whole",
  "is_within"]
def names3 : List PySem.Str := ["are_signs",
  "is_name",
  "checked",
  "head_fault",
  "is_group",
  "names_in",
  "groups_fault",
  "groups_shaped",
  "many_fault",
  "many_shaped",
  "need_known",
  "place_in"]
def names4 : List PySem.Str := ["row_by",
  "Lists",
  "Held",
  "_law_cell",
  "_law_box",
  "_law_take",
  "_law_names",
  "_law_list",
  "_law_world",
  "_law_lists",
  "_law_ranks",
  "_law_chosen"]
def names5 : List PySem.Str := ["_law_holders",
  "_law_is_dealing",
  "_law_dealings",
  "_law_has_room",
  "_law_firsts",
  "_law_is_firsts",
  "_law_told_of",
  "_law_fit",
  "_law_papers_right",
  "_law_sorts_right",
  "_law_many",
  "_law_best"]
def names6 : List PySem.Str := ["_law_paper",
  "_law_tellings",
  "_law_asked",
  "_law_all_right",
  "_law_one_otherwise"]
def names : List PySem.Str := names0 ++ (names1 ++ (names2 ++ (names3 ++ (names4 ++ (names5 ++ (names6))))))
def cvB (K : PySem.W.Frag) : Bool := match PySem.W.findCls K (.ref (He.ga K "Lists")) (.type "type") "__init__" with
  | some (.val (.ref a)) => decide (a = He.ma K (He.ga K "Lists") "__init__")
  | _ => false
def exB (K : PySem.W.Frag) : Bool := He.tupB K "WORDS" [.str "loose", .str "tight", .str "paired"] && (PySem.W.readsIn K (He.ga K "Lists") (.type "type") && cvB K)
def rfA (g : Addr → Option Obj) (a : Addr) : List Addr := match g a with
  | some o => He.refsD o
  | none => []
def gls (g : Addr → Option Obj) : List Addr := rfA g mainGlobals
def cl2 (g : Addr → Option Obj) : List Addr := [He.ga (He.frG g [mainGlobals]) "Held", He.ga (He.frG g [mainGlobals]) "Lists"].flatMap (rfA g)
def mth (g : Addr → Option Obj) : List Addr := (cl2 g).flatMap (rfA g)
/-- the objects that the facts look at (no doubles taken out: that cost more than all the rest) -/
def asK (g : Addr → Option Obj) : List Addr := mainGlobals :: cStatics :: (gls g ++ (cl2 g ++ (mth g ++ ((gls g).flatMap (rfA g) ++ (mth g).flatMap (rfA g)))))
def obK (g : Addr → Option Obj) : PySem.W.Frag := He.frG g (asK g)
abbrev AlG : Type := He.AlD × Bool
def obsL (K : PySem.W.Frag) : AlG := (He.obsD fa fn K, exB K)
def obG (g : Addr → Option Obj) : AlG := obsL (obK g)
def hk : PySem.W.Hook where
  α := AlG
  obs := fun s => obG s.heap.get?
  val := fun _ => (He.valD fn, true)
  says := fun _ h => ∃ K : PySem.W.Frag, K.In h ∧ (He.SaysD fa fn K ∧ exB K = true)
  of := fun _ _ e => ⟨_, He.frG_in, congrArg (fun z : AlG => z.1) e, congrArg (fun z : AlG => z.2) e⟩
  keeps := fun _ _ _ ⟨K, hK, c⟩ k => ⟨K, PySem.W.Frag.In.keeps hK k, c⟩
def ob (s : PySem.W.SharedT) : AlG := obG (HandSHeadRun.getT s)
theorem ob_eq (s : PySem.W.SharedT) : ob s = hk.obs s.abs := by
  have e : HandSHeadRun.getT s = s.abs.heap.get? := funext (HandSHeadRun.getT_eq s)
  unfold ob
  rw [e] <;> rfl
abbrev RR : PySem.W.OpenRow := PySem.W.OpenLaw.row PySem.Challenge.rw_mostlike_k47_whole_each_telling_of_sorts
abbrev qv : Program := PySem.W.view RR.prog [84]
theorem run (w : World) : HandSHeadRun.RunEq RR qv hk ob 8000 names w := by
  intro os
  kernel_rfl
end G3
set_option maxRecDepth 100000
set_option maxHeartbeats 4000000
/-! G7: the class Held, its methods' promises; words of sorts; further readings. -/
namespace G3
open PySem PySem.Spec PyProof.Rows L2

/-! ### the data -/
structure Wo where
  rows : List (Str × List (List Str))
  spots : List (Str × Int)
def Wo.people (w : Wo) : List Str := w.rows.map (·.1)
def Wo.places (w : Wo) : List Str := w.spots.map (·.1)
inductive Kd where
  | loose | tight | paired
  deriving DecidableEq
def Kd.s : Kd → Str
  | .loose => "loose"
  | .tight => "tight"
  | .paired => "paired"
theorem Kd.s_inj {a b : Kd} : (a.s = b.s) ↔ a = b := by
  cases a <;> cases b <;> first | exact ⟨fun _ => rfl, fun _ => rfl⟩ | exact ⟨fun h => absurd h (by decide +kernel), fun h => nomatch h⟩
def Kd.v (k : Kd) : V := .str k.s
abbrev tKd : Ty Kd := aty Kd.v
theorem Kd.v_eq {a b : Kd} : decide (a.v = b.v) = decide (a = b) := decide_eq_decide.mpr ⟨fun h => by
  have e : a.s = b.s := by injection h
  exact Kd.s_inj.mp e, fun h => by rw [h]⟩

section
variable (K : PySem.W.Frag) (C : Addr)
abbrev tGrps : Ty (List (List Str)) := tTup K (tTup K tStr)
abbrev tFolk : Ty (List (Str × List (List Str))) := tTup K (tPair K tStr (tGrps K))
abbrev tSpots : Ty (List (Str × Int)) := tTup K (tPair K tStr tInt)
/-- the attributes as __init__ stores them -/
def hfs (f s : V) : List (Str × V) := putF "spots" s (putF "folk" f [])
theorem hfs_no (f s : V) {m : Str} (h1 : ¬ m = "spots") (h2 : ¬ m = "folk") : (hfs f s).lookup m = none := by
  unfold hfs
  rw [lookup_putF, if_neg h1, lookup_putF, if_neg h2]
  rfl
theorem hfs_folk (f s : V) : (hfs f s).lookup ("folk" : Str) = some f := by
  unfold hfs
  rw [lookup_putF, if_neg (by decide +kernel), lookup_putF, if_pos rfl]
theorem hfs_spots (f s : V) : (hfs f s).lookup ("spots" : Str) = some s := by
  unfold hfs
  rw [lookup_putF, if_pos rfl]
def tHeld : Ty Wo where
  r := fun G v w => ∃ a dx f s, v = .ref a ∧ G a = some (.ins C dx (hfs f s)) ∧ (tFolk K).r G f w.rows ∧ (tSpots K).r G s w.spots
  ok := fun v _ => ∃ a, v = .ref a
  of := fun ⟨a, _, _, _, e, _⟩ => ⟨a, e⟩
  mono := fun x ⟨a, dx, f, s, e, h, g1, g2⟩ => ⟨a, dx, f, s, e, x.ins h, (tFolk K).mono x g1, (tSpots K).mono x g2⟩
/-- something seen, or None -/
def tOpR {α : Type} (t : Ty α) : Ty (Option α) where
  r := fun G v x => match x with
    | none => v = .non
    | some x => (∃ a, v = .ref a) ∧ t.r G v x
  ok := fun v x => match x with
    | none => v = .non
    | some x => (∃ a, v = .ref a) ∧ t.ok v x
  of := fun {G v x} h => match x, h with
    | none, h => h
    | some x, h => ⟨h.1, t.of h.2⟩
  mono := fun {G G' v x} l h => match x, h with
    | none, h => h
    | some x, h => ⟨h.1, t.mono l h.2⟩
/-- what the walk asks of the class -/
structure HeldC (mg : Str → Option Value) : Prop where
  cl : Cls K C
  nF : NoAttr K C "folk"
  nS : NoAttr K C "spots"
  mgC : mg "Held" = some (.ref C)
structure Mn (m qual : Str) (st : Stmt) (ps : List Str) : Prop where
  ex : ∃ (f : Addr) (fd : FuncData), Cls K C ∧ Meth K C m f ∧ C8.Fun K m qual st f fd ∧ Binds K fd ps []
end
section
variable {P : Program} {w : World} {K : PySem.W.Frag} {mg : Str → Option Value} {base : Heap} {x qual : Str} {st : Stmt} {N ps : List Str} {k : Nat} {α β γ δ ε ι : Type} {u : Ty β} {C : Addr}
theorem met1 {t1 : Ty α} {pre : α × Unit → Prop} {R : α × Unit → β → Prop} {p1 : Str} (Dd : Mn K C x qual st [p1]) (S : FnScope N [p1] (C8.fnScope st)) (h : Body P w K mg base N qual st k (Z1 t1 pre u R N)) : C8.Met P w K mg base (k + 1) C x (SpR (aCons t1 aNil) pre u R) [] := by
  obtain ⟨f, fd, c, me, Df, b⟩ := Dd.ex
  refine ⟨f, fd, _, [], c, me, fn_sp Df S (fun G vs i ⟨v1, _, e1, _, e2⟩ => by subst e1; have : _ = _ := e2; subst this; rfl) fun cdv A' outer s H E hr => ?_, b, .nil⟩
  obtain ⟨t, ht, z⟩ := h f cdv A' outer s H E hr
  refine ⟨t, ht, fun G vs i D l a p q n => ?_⟩
  obtain ⟨v1, _, rfl, h1, e2⟩ := a
  have e3 : _ = _ := e2
  subst e3
  exact st_start (z (Bs.of G H) D v1 i.1 (t1.of h1) p q n) ⟨trivial, h1⟩ l
theorem met2 {t1 : Ty α} {t2 : Ty γ} {pre : α × γ × Unit → Prop} {R : α × γ × Unit → β → Prop} {p1 p2 : Str} (Dd : Mn K C x qual st [p1, p2]) (S : FnScope N [p1, p2] (C8.fnScope st)) (h : Body P w K mg base N qual st k (Z2 t1 t2 pre u R N)) : C8.Met P w K mg base (k + 1) C x (SpR (aCons t1 (aCons t2 aNil)) pre u R) [] := by
  obtain ⟨f, fd, c, me, Df, b⟩ := Dd.ex
  refine ⟨f, fd, _, [], c, me, fn_sp Df S (fun G vs i ⟨v1, _, e1, _, v2, _, e3, _, e2⟩ => by subst e1 e3; have : _ = _ := e2; subst this; rfl) fun cdv A' outer s H E hr => ?_, b, .nil⟩
  obtain ⟨t, ht, z⟩ := h f cdv A' outer s H E hr
  refine ⟨t, ht, fun G vs i D l a p q n => ?_⟩
  obtain ⟨v1, _, rfl, h1, v2, _, rfl, h2, e2⟩ := a
  have e3 : _ = _ := e2
  subst e3
  exact st_start (z (Bs.of G H) D v1 v2 i.1 i.2.1 (t1.of h1) (t2.of h2) p q n) ⟨⟨trivial, h1⟩, h2⟩ l
theorem met3 {t1 : Ty α} {t2 : Ty γ} {t3 : Ty δ} {pre : α × γ × δ × Unit → Prop} {R : α × γ × δ × Unit → β → Prop} {p1 p2 p3 : Str} (Dd : Mn K C x qual st [p1, p2, p3]) (S : FnScope N [p1, p2, p3] (C8.fnScope st)) (h : Body P w K mg base N qual st k (Z3 t1 t2 t3 pre u R N)) : C8.Met P w K mg base (k + 1) C x (SpR (aCons t1 (aCons t2 (aCons t3 aNil))) pre u R) [] := by
  obtain ⟨f, fd, c, me, Df, b⟩ := Dd.ex
  refine ⟨f, fd, _, [], c, me, fn_sp Df S (fun G vs i ⟨v1, _, e1, _, v2, _, e3, _, v3, _, e4, _, e2⟩ => by subst e1 e3 e4; have : _ = _ := e2; subst this; rfl) fun cdv A' outer s H E hr => ?_, b, .nil⟩
  obtain ⟨t, ht, z⟩ := h f cdv A' outer s H E hr
  refine ⟨t, ht, fun G vs i D l a p q n => ?_⟩
  obtain ⟨v1, _, rfl, h1, v2, _, rfl, h2, v3, _, rfl, h3, e2⟩ := a
  have e3 : _ = _ := e2
  subst e3
  exact st_start (z (Bs.of G H) D v1 v2 v3 i.1 i.2.1 i.2.2.1 (t1.of h1) (t2.of h2) (t3.of h3) p q n) ⟨⟨⟨trivial, h1⟩, h2⟩, h3⟩ l
end
section
variable {M : Asr} {O : List (Addr × HO)} {σ : L2.St} {K : PySem.W.Frag} {α β γ ι : Type} {t : Ty α} {u : Ty β} {te ta tb : TE} {x : α} {y : β} {C : Addr} {W : Wo}
/-- o.m(..), o of the class Held -/
theorem evr_meth {m : Str} {A : TyA ι} {tr : TA} {i : ι} {E : XK} {pre : Wo × ι → Prop} {R : Wo × ι → β → Prop} (ho : Ev M O σ (tHeld K C) ta W) (ha : EvA M O σ A tr i) (hp : pre (W, i)) (h1 : ¬ m = "spots" := by decide +kernel) (h2 : ¬ m = "folk" := by decide +kernel) :
    EvR M O σ u (tMeth C m (SpR (aCons (tHeld K C) A) pre u R) [] E ta tr) (R (W, i)) := fun G H mm l Q q => ho G H mm l _ fun v G1 H1 e1 r1 => by
  obtain ⟨a, dx, f, s, ev, hh, g1, g2⟩ := id r1
  refine ⟨a, dx, _, ev, e1.gh.ins hh, hfs_no f s h1 h2, ha G1 H1 (M.mono (e1.le l.le) mm) (l.ext e1) _ fun vs G2 H2 e2 r2 => ?_⟩
  rw [List.append_nil]
  exact ⟨G2, (W, i), e2.gh, ⟨v, vs, rfl, (tHeld K C).mono (e2.le e1.gh) r1, r2⟩, hp, fun v y G3 H3 e3 hR r3 => q v y G3 H3 ((e1.trans e2).trans e3) hR r3⟩
theorem ev_meth {m : Str} {A : TyA ι} {tr : TA} {i : ι} {E : XK} {pre : Wo × ι → Prop} {f : Wo × ι → β} (ho : Ev M O σ (tHeld K C) ta W) (ha : EvA M O σ A tr i) (hp : pre (W, i)) (h1 : ¬ m = "spots" := by decide +kernel) (h2 : ¬ m = "folk" := by decide +kernel) :
    Ev M O σ u (tMeth C m (SpF (aCons (tHeld K C) A) pre u f) [] E ta tr) (f (W, i)) := fun G H mm l Q q => evr_meth (R := fun i y => y = f i) ho ha hp h1 h2 G H mm l Q fun v y G' H' e hy r => q v G' H' e (hy ▸ r)
theorem ev_folk (ho : Ev M O σ (tHeld K C) ta W) (c : Cls K C) (n : NoAttr K C "folk") : Ev M O σ (tFolk K) (tFld K ta "folk") W.rows := fun G H mm l Q q => ho G H mm l _ fun v G1 H1 e1 r1 => by
  obtain ⟨a, dx, f, s, ev, hh, g1, g2⟩ := r1
  exact ⟨a, C, dx, _, f, ev, e1.gh.ins hh, c, n, hfs_folk f s, q f G1 H1 e1 g1⟩
theorem ev_spots (ho : Ev M O σ (tHeld K C) ta W) (c : Cls K C) (n : NoAttr K C "spots") : Ev M O σ (tSpots K) (tFld K ta "spots") W.spots := fun G H mm l Q q => ho G H mm l _ fun v G1 H1 e1 r1 => by
  obtain ⟨a, dx, f, s, ev, hh, g1, g2⟩ := r1
  exact ⟨a, C, dx, _, s, ev, e1.gh.ins hh, c, n, hfs_spots f s, q s G1 H1 e1 g2⟩
/-! is None, of what may be seen -/
theorem ev_isNR {o : Option α} (ha : Ev M O σ (tOpR t) ta o) : Ev M O σ tBool (tOp rIsNo ta (tC .non)) o.isNone := ev_opA (u := tNon) (y := ()) ha (ev_c fun _ => rfl) fun G H v v' Q l h1 h2 q => by
  refine ⟨h2, ?_⟩
  cases o with
  | none =>
    cases h1
    exact q
  | some x =>
    obtain ⟨⟨a, rfl⟩, _⟩ := h1
    exact q
theorem ev_notNR {o : Option α} (ha : Ev M O σ (tOpR t) ta o) : Ev M O σ tBool (tOp rNotNo ta (tC .non)) o.isSome := ev_opA (u := tNon) (y := ()) ha (ev_c fun _ => rfl) fun G H v v' Q l h1 h2 q => by
  refine ⟨h2, ?_⟩
  cases o with
  | none =>
    cases h1
    exact q
  | some x =>
    obtain ⟨⟨a, rfl⟩, _⟩ := h1
    exact q
instance (priority := 1600) {M : Asr} {α : Type} {t : Ty α} {v : V} {x : α} : Has (M.is (tOpR t) v (some x)) v t x := ⟨fun m => m.2.2⟩
/-! isinstance -/
theorem ty_cls {n : String} {u : Value} (h : RelV (.ty n) u) : u = .type n := h
theorem ev_isiS {s : Str} {n : String} {b : Bool} (ha : Ev M O σ tStr ta s) (hk : PySem.W.kitOne K (.type "str") (.type n) = some b) : Ev M O σ tBool (tCB (rIsi K) (tCons ta (tCons (tC (.ty n)) tNil))) b := fun G H m l Q q => ha G H m l _ fun v G1 H1 e1 r1 => by
  cases r1
  exact ⟨.str s, .ty n, _, _, b, rfl, .ty n, .base (.str s), hk, q _ G1 H1 e1 rfl⟩
theorem ev_isiI {i : Int} {n : String} {b : Bool} (ha : Ev M O σ tInt ta i) (hk : PySem.W.kitOne K (.type "int") (.type n) = some b) : Ev M O σ tBool (tCB (rIsi K) (tCons ta (tCons (tC (.ty n)) tNil))) b := fun G H m l Q q => ha G H m l _ fun v G1 H1 e1 r1 => by
  cases r1
  exact ⟨.int i, .ty n, _, _, b, rfl, .ty n, .base (.int i), hk, q _ G1 H1 e1 rfl⟩
end
end G3
set_option maxRecDepth 100000
set_option maxHeartbeats 4000000
/-! G8: further rules by values: == [], != [], list(d.values()), list.count of texts. -/
namespace G3
open PySem PySem.Spec PyProof.Rows L2
section
variable {X : Cx}
/-! ### a list compared with an empty one -/
def rEqE (K : PySem.W.Frag) : R2 := fun x y H Q => ∃ a b xs, x = .ref a ∧ y = .ref b ∧ SqL K H a xs ∧ SqL K H b [] ∧ Q (.bl xs.isEmpty) H
def rNeE (K : PySem.W.Frag) : R2 := fun x y H Q => ∃ a b xs, x = .ref a ∧ y = .ref b ∧ SqL K H a xs ∧ SqL K H b [] ∧ Q (.bl (!xs.isEmpty)) H
theorem o_eqE (hu : X.A.units < cLine) : OpR X (compareOp .Eq) (rEqE X.K) := by
  intro pins s σ H x y v u Q I rx ry h
  obtain ⟨a, b, xs, rfl, rfl, ha, hb, q⟩ := h
  cases (show v = Value.ref a from rx)
  cases (show u = Value.ref b from ry)
  obtain ⟨us, r1, p1, _⟩ := I.list ha
  obtain ⟨ws, r2, p2, _⟩ := I.list hb
  have hw : ws = [] := by cases r2; rfl
  subst hw
  obtain ⟨⟨cls, dd, data, sl⟩, ho, hc, n, hd⟩ := id p1.isList
  obtain ⟨⟨cls2, dd2, data2, sl2⟩, ho2, hc2, n2, hd2⟩ := id p2.isList
  simp only at hc hd hc2 hd2
  subst hc hd hc2 hd2
  have ta : s.TypeIs (.ref a) "list" := ⟨_, ho, rfl⟩
  have tb : s.TypeIs (.ref b) "list" := ⟨_, ho2, rfl⟩
  refine wpAny_richCompare_same_room (op := .Eq) ta tb F.slot_list_eq ?_ hu
  cases r1 with
  | nil =>
    exact call_meets F.slot_list_eq ta F.entry_list_eq (F.args_list_eq_2 _ _) (SeqAt.list_eqAt a b _ _ n n2 dd dd2 sl sl2 rfl fun _ => true) ⟨ho, ho2, fun j h => by simp at h, ⟨fun z => (by cases z), ⟨.bl true, H, I, rfl, q⟩⟩⟩
  | cons r0 rs =>
    exact call_meets F.slot_list_eq ta F.entry_list_eq (F.args_list_eq_2 _ _) (SeqAt.list_eq_lengthsAt a b _ _ n n2 dd dd2 sl sl2 (by simp)) ⟨ho, ho2, ⟨fun z => (by cases z), ⟨.bl false, H, I, rfl, q⟩⟩⟩
theorem o_neE (hu : X.A.units < cLine) : OpR X (compareOp .NotEq) (rNeE X.K) := by
  intro pins s σ H x y v u Q I rx ry h
  obtain ⟨a, b, xs, rfl, rfl, ha, hb, q⟩ := h
  cases (show v = Value.ref a from rx)
  cases (show u = Value.ref b from ry)
  obtain ⟨us, r1, p1, _⟩ := I.list ha
  obtain ⟨ws, r2, p2, _⟩ := I.list hb
  have hw : ws = [] := by cases r2; rfl
  subst hw
  obtain ⟨⟨cls, dd, data, sl⟩, ho, hc, n, hd⟩ := id p1.isList
  obtain ⟨⟨cls2, dd2, data2, sl2⟩, ho2, hc2, n2, hd2⟩ := id p2.isList
  simp only at hc hd hc2 hd2
  subst hc hd hc2 hd2
  have ta : s.TypeIs (.ref a) "list" := ⟨_, ho, rfl⟩
  have tb : s.TypeIs (.ref b) "list" := ⟨_, ho2, rfl⟩
  refine wpAny_richCompare_same_room (op := .NotEq) ta tb F.slot_list_ne ?_ hu
  cases r1 with
  | nil =>
    exact call_meets F.slot_list_ne ta F.entry_list_ne (F.args_list_ne_2 _ _) (SeqAt.list_neAt a b _ _ n n2 dd dd2 sl sl2 rfl fun _ => true) ⟨ho, ho2, fun j h => by simp at h, ⟨fun z => (by cases z), ⟨.bl false, H, I, rfl, q⟩⟩⟩
  | cons r0 rs =>
    exact call_meets F.slot_list_ne ta F.entry_list_ne (F.args_list_ne_2 _ _) (SeqAt.list_ne_lengthsAt a b _ _ n n2 dd dd2 sl sl2 (by simp)) ⟨ho, ho2, ⟨fun z => (by cases z), ⟨.bl true, H, I, rfl, q⟩⟩⟩
/-! ### list.count of a text -/
def eqs (k : Str) (v : Value) : Bool := match v with
  | .str n _ => n.cps.toList == k.cps.toList
  | _ => false
theorem eqs_gives {k : Str} {t : Tok} : ∀ {us : List Value} {ns : List Str}, Vals (ns.map V.str) us → ∀ y ∈ us, MeetsSeq.EqGives y (.str k t) (eqs k y)
  | _, [], .nil => fun y hy => by cases hy
  | _, n :: ns, .cons r h => fun y hy => by
    obtain ⟨t', rfl⟩ := r
    rcases List.mem_cons.mp hy with e | e
    · rw [e]
      exact SeqRoads2.EqGives.str n k t' t
    · exact eqs_gives h y e
theorem str_beq (a b : Str) : (a.cps.toList == b.cps.toList) = decide (a = b) := by
  by_cases h : a = b
  · rw [h, decide_eq_true rfl, beq_self_eq_true]
  · rw [decide_eq_false h]
    refine beq_eq_false_iff_ne.mpr fun e => h ?_
    cases a
    cases b
    simp at e
    rw [e]
theorem eqs_count {k : Str} : ∀ {us : List Value} {ns : List Str}, Vals (ns.map V.str) us → us.countP (eqs k) = ns.countP fun n => decide (n = k)
  | _, [], .nil => rfl
  | _, n :: ns, .cons r h => by
    obtain ⟨t', rfl⟩ := r
    have ih := eqs_count (k := k) h
    rw [List.countP_cons, List.countP_cons, ih]
    show _ + (if (n.cps.toList == k.cps.toList) = true then 1 else 0) = _
    rw [str_beq]
def rCntS (K : PySem.W.Frag) : V → List V → Hp → VK → Prop := fun x xs H Q => ∃ (p : Addr) (ns : List Str) (k : Str), x = .ref p ∧ xs = [.str k] ∧ SqL K H p (ns.map V.str) ∧ Q (.int (ns.countP fun n => decide (n = k) : Nat)) H
theorem mt_countS : MtR X "list.count" (rCntS X.K) := by
  intro pins s σ H x xs v us Q I rx rxs h
  obtain ⟨p, ns, k, rfl, rfl, hs, q⟩ := h
  cases rx
  obtain ⟨u, rfl, ru⟩ := rxs.one
  obtain ⟨t, rfl⟩ := ru
  obtain ⟨its, rv, ⟨⟨cls, dd, data, sl⟩, n, ho, hc, hdn, hd⟩, hlen⟩ := I.list hs
  simp only at hc hd
  subst hc hd
  refine call_meets PySem.F.slot_list_count ⟨_, ho, rfl⟩ PySem.F.entry_list_count (PySem.F.args_list_count_2 _ _)
    (SeqAt.list_countAt p its.toArray n dd sl (.str k t) (eqs k)) ⟨ho, fun y hy => (eqs_gives rv y (by simpa using hy)).at _ _, ?_⟩
  refine ⟨.int (ns.countP (fun n => decide (n = k)) : Nat), H, I.tok _, ⟨s.toks, ?_⟩, q⟩
  show Value.int ((its.toArray.toList.countP (eqs k) : Nat) : Int) s.toks = _
  rw [show its.toArray.toList = its by simp, eqs_count rv]
/-! ### list(d.values()) -/
variable {e : Expr} {te : TE} {p apos cpos pos : Pos}
def tListVals (te : TE) : TE := fun σ H Q => te σ H fun x H1 => ∃ (d : Addr) (kvs : List (Key × V)), x = .ref d ∧ Rd H1 d (.dK kvs) ∧ ∀ q, H1 q = none → Q (.ref q) (upd H1 q (.lst (kvs.map Prod.snd)))
theorem pe_listVals (hg : Gl X "list") (hm : X.mg "list" = none) (he : PE X e te) (hc : X.calm = true := by rfl) (hbase : attributeBase e "values" X.env (eval e X.env) = eval e X.env := by rfl) (hline : (apos.endLine == cpos.line) = true := by rfl)
    (hs : starEach [.Call (.Attribute e "values" apos) [] [] cpos] X.env = (false, eval (.Call (.Attribute e "values" apos) [] [] cpos) X.env) :: starEach [] X.env := by rfl) :
    PE X (.Call (.Name "list" p) [.Call (.Attribute e "values" apos) [] [] cpos] [] pos) (tListVals te) := by
  refine ⟨fun pins s σ H Q I hq => ?_⟩
  refine wpAny_Call_Name_kw (ld_blt I hg hm (show bootBuiltins "list" = some (.type "list") by decide +kernel) ?_)
  refine PyProof.Rows.callWith_type1 ?_ hs rfl
  rw [hs]
  show wpAny _ _ (spliced ((false, eval (.Call (.Attribute e "values" apos) [] [] cpos) X.env) :: backTo pos (starEach [] X.env))) _ _ s
  refine Calls.spliced_cons ?_
  refine wpAny_Call_method (T := "dict") (id := "dict.values") hbase rfl hline F.plainAttrs_dict F.slot_dict_values F.type_dict_values (thn (he.run pins s σ H _ I hq) fun u s1 ⟨x, H1, I1, rx, d, kvs, ex, hd, q⟩ => ?_)
  subst ex
  obtain rfl : u = Value.ref d := rx
  obtain ⟨hz, hs0, vs, kv, hdo⟩ := dk_rd I1.hok hd
  obtain ⟨ep, hat⟩ := hdo.dictAt
  have lk : kvs.length = vs.length := Paired.length kv
  have I2 : Inv X pins σ H1 { s1 with heap := s1.heap.push { cls := .type "dict_values", data := .fields #[.ref d] } } := I1.kept (t' := s1.toks) fun b ob q => Heap.get?_push_of_some _ q
  refine ⟨hdo.typeIs, hdo.mapOf.noDict, ?_⟩
  show wpAny _ _ (callWith cpos (.builtin "dict.values") [.ref d] [] []) _ X.xe s1
  refine method_meetsIn F.slot_dict_values F.entry_dict_values rfl (PySem.evalArgs_none ⟨rfl, hdo.typeIs, F.args_dict_values_1 _, _, meets_dict_values (mixKind X.prog X.w) d hs0, ⟨vs, hdo⟩, ?_⟩)
  refine Calls.spliced_nil ?_
  refine PySem.W.kdl_call (PySem.W.kdl_values (knd := mixKind X.prog X.w) (kvs := vs) (ep := ep) (d := d) (r := s1.heap.objs.size)) (I1.ok.hd hc) ⟨⟨_, Heap.get?_push_size _ rfl, rfl, rfl⟩, hat.push _⟩ (by omega) fun h' tk acc c hk hS hacc => ?_
  have hf : H1 (s1.heap.push { cls := .type "dict_values", data := .fields #[.ref d] }).objs.size = none := I2.hok.fresh (Nat.le_refl _)
  have hv : Vals (kvs.map Prod.snd) acc.toList := by
    refine L2.vals_of_at (by have h1 := hacc.1; rw [← Array.length_toList] at h1; rw [List.length_map, h1, lk]) fun j x u hx hu => ?_
    rw [Array.getElem?_toList] at hu
    obtain ⟨k, hk2⟩ := hacc.2 j u hu
    rw [List.getElem?_map] at hx
    cases ek : kvs[j]? with
    | none => rw [ek] at hx; cases hx
    | some kx =>
      rw [ek] at hx
      obtain ⟨u2, h1, h2⟩ := kv_get kv (k := kx.1) (v := kx.2) ek
      rw [hk2] at h1
      cases h1
      rw [← (show kx.2 = x from Option.some.inj hx)]
      exact h2
  refine ⟨.ref _, _, I2.laid (t' := tk) (o := .lst (kvs.map Prod.snd)) hk (Nat.le_refl _) ⟨by rw [List.length_map]; exact hz, acc.toList, c, hv, by rw [Array.toArray_toList]; exact hS⟩, rfl, q _ hf⟩
end
end G3
set_option maxRecDepth 100000
set_option maxHeartbeats 4000000
/-! G9: what the further rules evaluate to. -/
namespace G3
open PySem PySem.Spec PyProof.Rows L2
section
variable {M : Asr} {O : List (Addr × HO)} {σ : L2.St} {K : PySem.W.Frag} {α β γ δ : Type} {t : Ty α} {u : Ty β} {w : Ty γ} {z : Ty δ} {te ta tb tc td : TE} {x : α} {y : β}
/-! ### displays -/
def EvXs (M : Asr) (O : List (Addr × HO)) (σ : L2.St) {α : Type} (t : Ty α) (ta : TA) (xs : List α) : Prop := ∀ G H, M.p G → Wl O G H → ∀ Q : List V → Hp → Prop, (∀ vs G' H', Ext G H G' H' → Fa (t.r G') vs xs → Q vs H') → ta σ H Q
theorem exs_nil : EvXs M O σ t tNil [] := fun G H m l Q q => q [] G H (.refl l.le) .nil
theorem exs_cons {tr : TA} {xs : List α} (h : Ev M O σ t ta x) (hr : EvXs M O σ t tr xs) : EvXs M O σ t (tCons ta tr) (x :: xs) := fun G H m l Q q =>
  h G H m l _ fun v G1 H1 e1 r1 => hr G1 H1 (M.mono (e1.le l.le) m) (l.ext e1) _ fun vs G2 H2 e2 r2 => q _ G2 H2 (e1.trans e2) (.cons (t.mono (e2.le e1.gh) r1) r2)
theorem ev_lst {tr : TA} {xs : List α} (h : EvXs M O σ t tr xs) (hz : xs.length ≤ 1000 := by decide) : Ev M O σ (tLst K t) (L2.tLst tr) xs := fun G H m l Q q => h G H m l _ fun vs G1 H1 e1 r1 =>
  ⟨by rw [r1.length]; exact sz _ hz, fun p hp => q _ _ _ (e1.trans (.new e1.gh hp)) ⟨p, vs, rfl, .of upd_same, r1.imp fun _ _ => t.mono ((Ext.new (o := .lst vs) e1.gh hp).le e1.gh), by rw [r1.length]; exact sz _ hz⟩⟩
theorem ev_tupD {tr : TA} {xs : List α} (h : EvXs M O σ t tr xs) (hz : xs.length ≤ 1000 := by decide) : Ev M O σ (tTup K t) (L2.tTup tr) xs := fun G H m l Q q => h G H m l _ fun vs G1 H1 e1 r1 =>
  ⟨by rw [r1.length]; exact sz _ hz, fun p hp => q _ _ _ (e1.trans (.new e1.gh hp)) ⟨p, vs, rfl, .of upd_same, r1.imp fun _ _ => t.mono ((Ext.new (o := .tup vs) e1.gh hp).le e1.gh), by rw [r1.length]; exact sz _ hz⟩⟩
theorem ev_pair (ha : Ev M O σ t ta x) (hb : Ev M O σ u tb y) : Ev M O σ (tPair K t u) (L2.tTup (tCons ta (tCons tb tNil))) (x, y) := fun G H m l Q q => ha G H m l _ fun v G1 H1 e1 r1 => hb G1 H1 (M.mono (e1.le l.le) m) (l.ext e1) _ fun v2 G2 H2 e2 r2 =>
  ⟨sz 2, fun p hp => by
    have e3 := Ext.new (o := .tup [v, v2]) e2.gh hp
    exact q _ _ _ ((e1.trans e2).trans e3) ⟨p, v, v2, rfl, .of upd_same, t.mono ((e2.trans e3).le e1.gh) r1, u.mono (e3.le e2.gh) r2⟩⟩
theorem ev_trip {c : γ} (ha : Ev M O σ t ta x) (hb : Ev M O σ u tb y) (hc : Ev M O σ w tc c) : Ev M O σ (tTrip K t u w) (L2.tTup (tCons ta (tCons tb (tCons tc tNil)))) (x, y, c) := fun G H m l Q q => ha G H m l _ fun v G1 H1 e1 r1 => hb G1 H1 (M.mono (e1.le l.le) m) (l.ext e1) _ fun v2 G2 H2 e2 r2 => hc G2 H2 (M.mono ((e1.trans e2).le l.le) m) ((l.ext e1).ext e2) _ fun v3 G3 H3 e3 r3 =>
  ⟨sz 3, fun p hp => by
    have e4 := Ext.new (o := .tup [v, v2, v3]) e3.gh hp
    exact q _ _ _ (((e1.trans e2).trans e3).trans e4) ⟨p, v, v2, v3, rfl, .of upd_same, t.mono ((e2.trans (e3.trans e4)).le e1.gh) r1, u.mono ((e3.trans e4).le e2.gh) r2, w.mono (e4.le e3.gh) r3⟩⟩
theorem ev_quad {c : γ} {d : δ} (ha : Ev M O σ t ta x) (hb : Ev M O σ u tb y) (hc : Ev M O σ w tc c) (hd : Ev M O σ z td d) : Ev M O σ (tQuad K t u w z) (L2.tTup (tCons ta (tCons tb (tCons tc (tCons td tNil))))) (x, y, c, d) := fun G H m l Q q => ha G H m l _ fun v G1 H1 e1 r1 => hb G1 H1 (M.mono (e1.le l.le) m) (l.ext e1) _ fun v2 G2 H2 e2 r2 => hc G2 H2 (M.mono ((e1.trans e2).le l.le) m) ((l.ext e1).ext e2) _ fun v3 G3 H3 e3 r3 => hd G3 H3 (M.mono (((e1.trans e2).trans e3).le l.le) m) (((l.ext e1).ext e2).ext e3) _ fun v4 G4 H4 e4 r4 =>
  ⟨sz 4, fun p hp => by
    have e5 := Ext.new (o := .tup [v, v2, v3, v4]) e4.gh hp
    exact q _ _ _ ((((e1.trans e2).trans e3).trans e4).trans e5) ⟨p, v, v2, v3, v4, rfl, .of upd_same, t.mono ((e2.trans (e3.trans (e4.trans e5))).le e1.gh) r1, u.mono ((e3.trans (e4.trans e5)).le e2.gh) r2, w.mono ((e4.trans e5).le e3.gh) r3, z.mono (e5.le e4.gh) r4⟩⟩
theorem ev_nilL : Ev M O σ (tLst K t) (L2.tLst tNil) [] := ev_lst exs_nil (Nat.zero_le _)
theorem ev_nilD : Ev M O σ (tDct t) tDNewK [] := fun G H m l Q q p hp => q _ _ _ (.new l.le hp) ⟨p, [], rfl, .inl upd_same, .nil, Nat.zero_le _⟩
/-! ### comparisons with an empty list -/
theorem ev_eqE {xs : List α} (ha : Ev M O σ (tLst K t) ta xs) : Ev M O σ tBool (tOp (rEqE K) ta (L2.tLst tNil)) xs.isEmpty := ev_opA (u := tLst K t) (y := []) ha ev_nilL fun G H v v' Q l ⟨a, vs, e, h, g, z⟩ ⟨b, vs', e', h', g', z'⟩ q => by
  cases g'
  refine ⟨a, b, vs, e, e', l.sqL h, l.sqL h', ?_⟩
  cases g <;> exact q
theorem ev_neE {xs : List α} (ha : Ev M O σ (tLst K t) ta xs) : Ev M O σ tBool (tOp (rNeE K) ta (L2.tLst tNil)) (!xs.isEmpty) := ev_opA (u := tLst K t) (y := []) ha ev_nilL fun G H v v' Q l ⟨a, vs, e, h, g, z⟩ ⟨b, vs', e', h', g', z'⟩ q => by
  cases g'
  refine ⟨a, b, vs, e, e', l.sqL h, l.sqL h', ?_⟩
  cases g <;> exact q
theorem ev_oneE {i j : Nat} {p : Addr} {vs : List V} (hO : O[j]? = some (p, .lst vs)) (hs : σ[i]? = some (some (.ref p)) := by rfl) : Ev M O σ tBool (tOp (rNeE K) (tVar i) (L2.tLst tNil)) (!vs.isEmpty) := fun G H m l Q q =>
  ⟨_, hs, ev_nilL (t := tStr) (K := K) G H m l _ fun v G1 H1 e1 ⟨b, ws, e, h, g, z⟩ => by
    cases g
    exact ⟨p, b, vs, rfl, e, .of ((l.ext e1).at_ hO), e1.gh.sqL h, q _ G1 H1 e1 rfl⟩⟩
/-! ### values, count, in -/
theorem fa_snd {G G' : Hp} (l : Le G G') {kvs : List (Key × V)} {xs : List (Str × α)} (h : Fa (kvR t G) kvs xs) : Fa (t.r G') (kvs.map Prod.snd) (xs.map (·.2)) := by
  induction h with
  | nil => exact .nil
  | cons h _ ih => exact .cons (t.mono l h.2) ih
theorem ev_listVals {xs : List (Str × α)} (hd : Ev M O σ (tDct t) td xs) : Ev M O σ (tLst K t) (tListVals td) (xs.map (·.2)) := fun G H m l Q q => hd G H m l _ fun v G1 H1 e1 ⟨a, kvs, e, h, g, z⟩ =>
  ⟨a, kvs, e, e1.gh.rd h, fun p hp => by
    have e3 := Ext.new (o := .lst (kvs.map Prod.snd)) e1.gh hp
    exact q _ _ _ (e1.trans e3) ⟨p, _, rfl, .of upd_same, fa_snd (e3.le e1.gh) g, by rw [List.length_map]; exact z⟩⟩
theorem ev_countS {xs : List Str} {k : Str} (ha : Ev M O σ (tLst K tStr) ta xs) (hb : Ev M O σ tStr tb k) : Ev M O σ tInt (tBM K "list" (rCntS K) ta (tCons tb tNil)) ((xs.countP fun n => decide (n = k) : Nat) : Int) := fun G H m l Q q => ha G H m l _ fun v G1 H1 e1 r1 => by
  obtain ⟨a, vs, e, h, g, z⟩ := id r1
  subst e
  have ev : vs = xs.map V.str := g.atoms
  subst ev
  refine ⟨.inl ⟨rfl, _, e1.gh.sqL h⟩, hb G1 H1 (M.mono (e1.le l.le) m) (l.ext e1) _ fun v2 G2 H2 e2 r2 => ?_⟩
  cases r2
  exact ⟨a, xs, k, rfl, rfl, e2.gh.sqL ((e2.le e1.gh).sqL h), q _ G2 H2 (e1.trans e2) rfl⟩
theorem inV_str (k : Str) : ∀ xs : List Str, inV (.str k) (xs.map V.str) = decide (k ∈ xs)
  | [] => by simp [inV]
  | a :: r => by
    have ih := inV_str k r
    unfold inV at ih ⊢
    rw [List.map_cons, List.any_cons, ih]
    show (a == k || _) = _
    by_cases h : a = k
    · subst h
      simp
    · have h2 : ¬ k = a := fun z => h z.symm
      rw [show (a == k) = false from by simp [h]]
      simp [h2]
theorem flat_strs : ∀ xs : List Str, (xs.map V.str).all flatV = true
  | [] => rfl
  | _ :: r => by rw [List.map_cons, List.all_cons, flat_strs r]; rfl
theorem ev_inL {xs : List Str} {k : Str} (ha : Ev M O σ tStr ta k) (hb : Ev M O σ (tLst K tStr) tb xs) : Ev M O σ tBool (tOp (rIn K false) ta tb) (decide (k ∈ xs)) := ev_opA ha hb fun G H v v' Q l h1 ⟨a, vs, e, h, g, z⟩ q => by
  cases h1
  have ev : vs = xs.map V.str := g.atoms
  subst ev
  exact ⟨a, _, e, .inl (l.sqL h), rfl, flat_strs xs, by rw [if_neg Bool.false_ne_true, inV_str]; exact q⟩
theorem ev_ninL {xs : List Str} {k : Str} (ha : Ev M O σ tStr ta k) (hb : Ev M O σ (tLst K tStr) tb xs) : Ev M O σ tBool (tOp (rIn K true) ta tb) (!decide (k ∈ xs)) := ev_opA ha hb fun G H v v' Q l h1 ⟨a, vs, e, h, g, z⟩ q => by
  cases h1
  have ev : vs = xs.map V.str := g.atoms
  subst ev
  exact ⟨a, _, e, .inl (l.sqL h), rfl, flat_strs xs, by rw [if_pos rfl, inV_str]; exact q⟩
theorem ev_inT {xs : List Str} {k : Str} (ha : Ev M O σ tStr ta k) (hb : Ev M O σ (tTup K tStr) tb xs) : Ev M O σ tBool (tOp (rIn K false) ta tb) (decide (k ∈ xs)) := ev_opA ha hb fun G H v v' Q l h1 ⟨a, vs, e, h, g, z⟩ q => by
  cases h1
  have ev : vs = xs.map V.str := g.atoms
  subst ev
  exact ⟨a, _, e, .inr (l.sqT h), rfl, flat_strs xs, by rw [if_neg Bool.false_ne_true, inV_str]; exact q⟩
theorem map_kd (ks : List Kd) : ks.map Kd.v = (ks.map Kd.s).map V.str := by rw [List.map_map]; rfl
theorem mem_kd {k : Kd} {ks : List Kd} : (k.s ∈ ks.map Kd.s) ↔ k ∈ ks := ⟨fun h => by
  obtain ⟨a, ha, e⟩ := List.mem_map.mp h
  rw [← Kd.s_inj.mp e]
  exact ha, fun h => List.mem_map.mpr ⟨k, h, rfl⟩⟩
theorem ev_inK {ks : List Kd} {k : Kd} (ha : Ev M O σ tKd ta k) (hb : Ev M O σ (tLst K tKd) tb ks) : Ev M O σ tBool (tOp (rIn K false) ta tb) (decide (k ∈ ks)) := ev_opA ha hb fun G H v v' Q l h1 ⟨a, vs, e, h, g, z⟩ q => by
  cases h1
  have ev : vs = ks.map Kd.v := g.atoms
  rw [map_kd] at ev
  subst ev
  refine ⟨a, _, e, .inl (l.sqL h), rfl, flat_strs _, ?_⟩
  rw [if_neg Bool.false_ne_true]
  show Q (V.bl (inV (.str k.s) _)) H
  rw [inV_str, decide_eq_decide.mpr mem_kd]
  exact q
theorem ev_ninK {ks : List Kd} {k : Kd} (ha : Ev M O σ tKd ta k) (hb : Ev M O σ (tLst K tKd) tb ks) : Ev M O σ tBool (tOp (rIn K true) ta tb) (!decide (k ∈ ks)) := ev_opA ha hb fun G H v v' Q l h1 ⟨a, vs, e, h, g, z⟩ q => by
  cases h1
  have ev : vs = ks.map Kd.v := g.atoms
  rw [map_kd] at ev
  subst ev
  refine ⟨a, _, e, .inl (l.sqL h), rfl, flat_strs _, ?_⟩
  rw [if_pos rfl]
  show Q (V.bl (!inV (.str k.s) _)) H
  rw [inV_str, decide_eq_decide.mpr mem_kd]
  exact q
theorem ev_kd {s : Str} {k : Kd} (h : s = k.s := by rfl) : Ev M O σ tKd (tC (.str s)) k := ev_c fun G => by
  show V.str s = k.v
  rw [h]
  rfl
theorem ev_eqK {a b : Kd} (ha : Ev M O σ tKd ta a) (hb : Ev M O σ tKd tb b) : Ev M O σ tBool (tOp rEq ta tb) (decide (a = b)) := ev_is (ev_eqA ha hb rfl) Kd.v_eq
theorem ev_neK {a b : Kd} (ha : Ev M O σ tKd ta a) (hb : Ev M O σ tKd tb b) : Ev M O σ tBool (tOp rNe ta tb) (!decide (a = b)) := ev_is (ev_neA ha hb rfl) (by rw [Kd.v_eq])
/-! ### isinstance of what is seen -/
theorem tyx_T {G H : Hp} {a : Addr} {xs : List V} (l : Le G H) (h : SqT K G a xs) : TyX K H (.ref a) (.type "tuple") := by
  rcases l.sqT h with (h | ⟨o, h⟩) | ⟨o, its, n, h, c, _⟩
  · exact .base (.tup h)
  · exact .fTuple h
  · exact .kTuple h c
theorem tyx_L {G H : Hp} {a : Addr} {xs : List V} (l : Le G H) (h : SqL K G a xs) : TyX K H (.ref a) (.type "list") := by
  rcases l.sqL h with (h | ⟨o, h⟩) | ⟨o, its, n, h, c, _⟩
  · exact .base (.lst h)
  · exact .base (.frz h)
  · exact .kList h c
theorem tyx_D {G H : Hp} {a : Addr} {kvs : List (Key × V)} (l : Le G H) (h : Rd G a (.dK kvs)) : TyX K H (.ref a) (.type "dict") := by
  rcases l.rd h with h | ⟨o, h⟩
  · exact .base (.dK h)
  · exact .fDict h
theorem ev_isi {n m : String} {b : Bool} (ha : Ev M O σ t ta x) (hx : ∀ {G H v}, Le G H → t.r G v x → TyX K H v (.type m)) (hk : kitB m n = some b) : Ev M O σ tBool (tCB (rIsi K) (tCons ta (tCons (tC (.ty n)) tNil))) b := fun G H mm l Q q => ha G H mm l _ fun v G1 H1 e1 r1 =>
  ⟨v, .ty n, _, _, b, rfl, .ty n, hx e1.gh r1, kit_ty hk, q _ G1 H1 e1 rfl⟩
theorem ty_pair {p : α × β} {G H : Hp} {v : V} (l : Le G H) (h : (tPair K t u).r G v p) : TyX K H v (.type "tuple") := by
  obtain ⟨a, v1, v2, e, h, _⟩ := h
  rw [e]
  exact tyx_T l h
theorem ty_trip {p : α × β × γ} {G H : Hp} {v : V} (l : Le G H) (h : (tTrip K t u w).r G v p) : TyX K H v (.type "tuple") := by
  obtain ⟨a, v1, v2, v3, e, h, _⟩ := h
  rw [e]
  exact tyx_T l h
theorem ty_tup {xs : List α} {G H : Hp} {v : V} (l : Le G H) (h : (tTup K t).r G v xs) : TyX K H v (.type "tuple") := by
  obtain ⟨a, vs, e, h, _⟩ := h
  rw [e]
  exact tyx_T l h
theorem ty_lst {xs : List α} {G H : Hp} {v : V} (l : Le G H) (h : (tLst K t).r G v xs) : TyX K H v (.type "list") := by
  obtain ⟨a, vs, e, h, _⟩ := h
  rw [e]
  exact tyx_L l h
theorem ty_dct {xs : List (Str × α)} {G H : Hp} {v : V} (l : Le G H) (h : (tDct t).r G v xs) : TyX K H v (.type "dict") := by
  obtain ⟨a, vs, e, h, _⟩ := h
  rw [e]
  exact tyx_D l h
theorem ty_str {s : Str} {G H : Hp} {v : V} (l : Le G H) (h : tStr.r G v s) : TyX K H v (.type "str") := by cases h; exact .base (.str s)
theorem ty_int {s : Int} {G H : Hp} {v : V} (l : Le G H) (h : tInt.r G v s) : TyX K H v (.type "int") := by cases h; exact .base (.int s)
theorem ty_bool {s : Bool} {G H : Hp} {v : V} (l : Le G H) (h : tBool.r G v s) : TyX K H v (.type "bool") := by cases h; exact .base (.bl s)
/-- isinstance(x, (list, tuple)): yes -/
theorem ev_isiT {m : String} (ha : Ev M O σ t ta x) (hx : ∀ {G H v}, Le G H → t.r G v x → TyX K H v (.type m)) (hk : PySem.W.kitAny K (.type m) [.type "list", .type "tuple"] = some true) :
    Ev M O σ tBool (tCB (rIsiT K) (tCons ta (tCons (L2.tTup (tCons (tC (.ty "list")) (tCons (tC (.ty "tuple")) tNil))) tNil))) true := fun G H mm l Q q => ha G H mm l _ fun v G1 H1 e1 r1 =>
  ⟨sz 2, fun p hp => by
    have e3 := Ext.new (o := .tup [.ty "list", .ty "tuple"]) e1.gh hp
    exact ⟨v, p, _, _, _, true, rfl, upd_same, .cons (.ty "list") (.cons (.ty "tuple") .nil), hx e3.gh (t.mono (e3.le e1.gh) r1), hk, q _ _ _ (e1.trans e3) rfl⟩⟩
end
end G3
set_option maxRecDepth 100000
set_option maxHeartbeats 4000000
/-! G10: enumerate over a tuple. -/
namespace G3
open PySem PySem.Spec PyProof.Rows L2
section
theorem enumT_new (t : Addr) (items : Array Value) :
    Meets (Builtin.«enumerate.__new__» ⟨[.type "enumerate", .ref t], []⟩) (fun _ R s => s.heap.IsTuple t items ∧
      R (.ok (.ret (.ref (s.heap.push { cls := .type "tuple_iterator", data := .fields #[.ref t, .int 0 0] }).objs.size)))
        { s with heap := (s.heap.push { cls := .type "tuple_iterator", data := .fields #[.ref t, .int 0 0] }).push { cls := .type "enumerate", data := .fields #[.none, .bool false, .ref s.heap.objs.size, rawInt 0, .none, .none] } }) :=
  .of_wp fun prog w A R s h => by
    obtain ⟨hp, g, d, tk, os⟩ := s
    obtain ⟨h1, h⟩ := h
    have hsub := sub_enumerate
    have q1 : ∀ {A' : Around} {E : Value → Shared → Prop} {Q : Value → Shared → Prop}, Q (.ref hp.objs.size) ⟨hp.push { cls := .type "tuple_iterator", data := .fields #[.ref t, .int 0 0] }, g, d, tk, os⟩ → wpAny (model prog w) A' (pyIter (.ref t)) Q E ⟨hp, g, d, tk, os⟩ :=
      fun q => wpAny_pyIter_tuple (s := ⟨hp, g, d, tk, os⟩) h1 q
    wp_walk using q1
    refine wpAny_stack_any fun st => wpAny_pure ?_
    split
    · rename_i c _ _ _ _ _
      cases (c == Value.type "enumerate")
      · wp_walk using q1
        exact ⟨_, rfl, h⟩
      · wp_walk using q1
        exact ⟨_, rfl, h⟩
    · wp_walk using q1
      exact ⟨_, rfl, h⟩
theorem enumT_call {prog : Program} {w : World} {A : Around} {E : Value → Shared → Prop} {s : Shared} {t : Addr} {items : Array Value} {Q : Value → Shared → Prop} (hL : s.heap.IsTuple t items)
    (h : ∀ h', IsEnum h' (s.heap.objs.size + 1) s.heap.objs.size 0 .none → h'.IsTupleIter s.heap.objs.size t 0 → (∀ b o, s.heap.get? b = some o → h'.get? b = some o) → Q (.ref (s.heap.objs.size + 1)) { s with heap := h' }) :
    wpAny (model prog w) A (call (.type "enumerate") [.ref t]) Q E s := by
  refine callType_new F.called_enumerate (by decide) (F.typeCall_enumerate_1 _) (F.newCall_enumerate_1 _) (fun obj => F.args_object_init_2 obj _) F.entry_enumerate_new (enumT_new t items) ⟨hL, ?_⟩
  have hz : (s.heap.push { cls := .type "tuple_iterator", data := .fields #[.ref t, .int 0 0] }).objs.size = s.heap.objs.size + 1 := Heap.size_push ..
  show _ ∧ _
  rw [hz]
  have he : IsEnum ((s.heap.push { cls := .type "tuple_iterator", data := .fields #[.ref t, .int 0 0] }).push
      { cls := .type "enumerate", data := .fields #[.none, .bool false, .ref s.heap.objs.size, rawInt 0, .none, .none] }) (s.heap.objs.size + 1) s.heap.objs.size 0 .none := by
    have z := Heap.get?_push_size (s.heap.push { cls := .type "tuple_iterator", data := .fields #[.ref t, .int 0 0] })
      (o := { cls := .type "enumerate", data := .fields #[.none, .bool false, .ref s.heap.objs.size, rawInt 0, .none, .none] }) rfl
    rw [hz] at z
    exact z
  exact ⟨⟨_, he, rfl⟩, h _ he ⟨_, Heap.get?_push_of_some _ (Heap.get?_push_size _ rfl), rfl, rfl⟩ fun b o x => Heap.get?_push_of_some _ (Heap.get?_push_of_some _ x)⟩
def IteT (K : PySem.W.Frag) (a : Addr) : It :=
  ⟨fun i H => ∃ (xs : List V) (x : V), SqT K H a xs ∧ xs[i]? = some x, fun i H v H' => ∃ T x, v = .ref T ∧ H T = none ∧ H' = upd H T (.tup [.int (i : Nat), x]) ∧ ∀ xs, SqT K H a xs → xs[i]? = some x, fun i H => ∃ xs : List V, SqT K H a xs ∧ xs.length = i⟩
theorem enumT_turn {P : Program} {w : World} {K : PySem.W.Frag} {elts : List Expr} {kk : Nat} {tpos : Pos} (a e it : Addr) :
    Turn P w K (.Tuple elts kk tpos) (IteT K a) [e, it] e (fun i h => (∃ old, IsEnum h e it ((i : Nat) : Int) old) ∧ h.IsTupleIter it a i ∧ e ≠ it ∧ a ≠ it ∧ e ≠ a) where
  mem := by simp
  obj := fun i h st b hb => by
    obtain ⟨⟨old, he⟩, ⟨o, ho, hc, hd⟩, _⟩ := st
    have e' : b = e ∨ b = it := by simpa using hb
    rcases e' with z | z
    · rw [z]
      exact ⟨_, he, fun v q => nomatch q⟩
    · rw [z]
      exact ⟨o, ho, fun v q => by rw [hd] at q; cases q⟩
  keep := fun i h h' st k => by
    obtain ⟨⟨old, he⟩, hi, ne⟩ := st
    exact ⟨⟨old, k e (by simp) _ he⟩, hi.at fun o q => k it (by simp) o q, ne⟩
  item := by
    intro X hP hw hK hc i pins s σ H E I hf st hg
    subst hP hw hK
    obtain ⟨⟨old, he⟩, hit, hne, hai, hea⟩ := st
    obtain ⟨xs, x, hq, hx⟩ := hg
    obtain ⟨its, rv, p, hz⟩ := I.tuple hq
    obtain ⟨u, hu, ru⟩ := rv.get hx
    have hel : e < s.heap.objs.size := Heap.lt_size he
    have hil : it < s.heap.objs.size := by obtain ⟨_, q, _⟩ := hit; exact Heap.lt_size q
    have hi2 : i < its.toArray.size := by
      have := (List.getElem?_eq_some_iff.mp hu).1
      simpa using this
    refine wpAny_pyNext_enum_itemD (Draws.tuple (A := X.A.in1) (show X.A.in1.handled = none from I.ok.hd hc) it a hai its.toArray) he ⟨hit, (show s.heap.IsTuple a its.toArray from p)⟩ hi2 hne (by simp [hne, hea]) fun x2 h' tk hP2 ho hit' hT hsz hk => ?_
    have hx2 : x2 = u := by
      have z : its.toArray[i]? = some u := by simpa using hu
      rw [z] at hP2
      exact (Option.some.inj hP2).symm
    subst hx2
    refine ⟨_, rfl, wpAny_letOwnedTupleGo_enum (s := { s with heap := h', toks := tk + 1 }) ho fun h'' he' sb => ?_⟩
    have hT2 : h''.get? s.heap.objs.size = some { cls := .type "tuple", data := .seq #[.int i tk, x2] } := (sb.2 _ (Nat.ne_of_gt hel)).trans hT
    have new : ObjOk X.prog X.w (upd H s.heap.objs.size (.tup [.int (i : Nat), x])) h'' s.heap.objs.size (.tup [.int (i : Nat), x]) :=
      ⟨by show 2 ≤ sizeLine; decide, [.int i tk, x2], .cons ⟨_, rfl⟩ (.cons ru .nil), ⟨_, hT2, rfl, _, rfl⟩⟩
    have I1 : Inv X pins σ (upd H s.heap.objs.size (.tup [.int (i : Nat), x])) { s with heap := h'', toks := tk + 1 } :=
      I.turnedNew (ch := [e, it]) (fun b ob hb q => (sb.2 b (fun z => hb (by simp [z]))).trans (hk b ob (fun z => hb (by simp [z])) (fun z => hb (by simp [z])) q)) hf (Nat.le_refl _) new
    refine ⟨.ref s.heap.objs.size, _, I1, rfl, ⟨_, x, rfl, I.hok.fresh (Nat.le_refl _), rfl, fun ys hy => by rw [I.tuple_inj hy hq]; exact hx⟩, ⟨⟨x2, ?_⟩, hit'.1.at fun o q => (sb.2 it (Ne.symm hne)).trans q, hne, hai, hea⟩, fun b hb => ?_⟩
    · have e1 : ((i + 1 : Nat) : Int) = (i : Int) + 1 := by omega
      rw [e1]
      exact he'
    · have hb' : b < s.heap.objs.size := by
        have e' : b = e ∨ b = it := by simpa using hb
        rcases e' with z | z
        · rw [z]
          exact hel
        · rw [z]
          exact hil
      rw [upd_ne (Nat.ne_of_lt hb')]
      exact (hf b hb).1
  done := by
    intro X hP hw hK hc i pins s σ H E I hf st hg
    subst hP hw hK
    obtain ⟨⟨old, he⟩, hit, hne, hai, hea⟩ := st
    obtain ⟨xs, hq, hx⟩ := hg
    obtain ⟨its, rv, p, hz⟩ := I.tuple hq
    obtain ⟨f0, f1, f2, f3, f4, f5⟩ := hf it (by simp)
    have hl := rv.length
    have hi : i = its.toArray.size := by simp; omega
    subst hi
    exact wpAny_pyNext_enum_endD (Draws.tuple (A := X.A.in1) (show X.A.in1.handled = none from I.ok.hd hc) it a hai its.toArray) he ⟨hit, (show s.heap.IsTuple a its.toArray from p)⟩ fun h' eb => ⟨rfl, I.turned (t' := s.toks) (fun b o hb q => eb b o hb q) f0 f1 f3 f4 f5⟩
  self := fun A i s Q E st h => let ⟨⟨_, he⟩, _⟩ := st; wpAny_pyIter_enum he h
def iEnumT (K : PySem.W.Frag) (ta : TA) : TI := fun σ H R => ta σ H fun vs H1 => ∃ a xs, vs = [.ref a] ∧ SqT K H1 a xs ∧ R (IteT K a) H1
theorem pi_enumT {X : Cx} {e : Expr} {ta : TA} {p pos tpos : Pos} {elts : List Expr} {kk : Nat} (hg : Gl X "enumerate") (hm : X.mg "enumerate" = none) (ha : PA X [e] ta) (hs : starEach [e] X.env = [(false, eval e X.env)] := by rfl) :
    PI X (.Tuple elts kk tpos) (.Call (.Name "enumerate" p) [e] [] pos) (iEnumT X.K ta) := by
  refine ⟨fun pins s σ H R I h => ?_⟩
  refine Call_ (ld_blt I hg hm boot_enumerate (PyProof.Rows.callWith_type1 (thn (ha.run pos pins s σ H _ I h) fun us s1 ⟨vs, H1, I1, r1, q1⟩ => ?_) hs rfl))
  obtain ⟨a, xs, ex, hq, q⟩ := q1
  subst ex
  cases r1 with
  | cons r rr =>
    cases rr
    cases r
    obtain ⟨its, rv, p', hz⟩ := I1.tuple hq
    have hal : a < s1.heap.objs.size := IsTup.lt p'
    refine enumT_call (show s1.heap.IsTuple a its.toArray from p') fun h' he hit hk => wpAny_pyIter_enum he ?_
    have I2 : Inv X pins σ H1 { s1 with heap := h' } := I1.kept (t' := s1.toks) hk
    refine ⟨s1.heap.objs.size + 1, [s1.heap.objs.size + 1, s1.heap.objs.size], _, _, H1, rfl, I2, enumT_turn a (s1.heap.objs.size + 1) s1.heap.objs.size, ⟨⟨.none, he⟩, hit, Nat.succ_ne_self _, Nat.ne_of_lt hal, Nat.ne_of_gt (Nat.lt_succ_of_lt hal)⟩, fun b hb => ?_, q⟩
    have e' : b = s1.heap.objs.size + 1 ∨ b = s1.heap.objs.size := by simpa using hb
    have hle : s1.heap.objs.size ≤ b := by
      rcases e' with z | z
      · rw [z]
        exact Nat.le_add_right _ _
      · rw [z]
        exact Nat.le_refl _
    exact I1.fpOk hle (I1.hok.fresh hle)
theorem walk_enumT {K : PySem.W.Frag} {a : Addr} {xs : List V} : Walk (IteT K a) xs.length (fun H => SqT K H a xs) (YPair (fun i => some (.int (i : Nat))) (fun i => xs[i]?)) := by
  refine ⟨fun i _ hi q => ⟨xs, xs[i], q, by simp [hi]⟩, fun _ q => ⟨xs, q, rfl⟩, fun i H v H' _ q y => ?_⟩
  obtain ⟨T, x, h1, h2, h3, h4⟩ := y
  exact ⟨T, .int (i : Nat), x, h1, h2, h3, rfl, h4 xs q⟩
end
section
variable {B : Bs} {M : Asr} {O : List (Addr × HO)} {σ : L2.St} {K : PySem.W.Frag} {α β Ω γ : Type} {t : Ty α} {g : TG} {tb tz : TS} {D : Ends}
theorem st_forET {xs : List α} {ta : TA} (tg : Tgt g (tPair K tInt t) Ω) (Jv : Nat → γ → Prop) (Xg : γ → Asr) (Og : γ → List (Addr × HO)) (sg : γ → L2.St) (h : EvA M O σ (aCons (tTup K t) aNil) ta (xs, ())) (g0 : γ) (j0 : Jv 0 g0) (x0 : ∀ G, M.p G → (Xg g0).p G)
    (hs : ∀ (L : Asr) (i : Nat) x ω c, xs[i]? = some x → tg.ok ω ((i : Int), x) → Jv i c → St B (tg.F ((M.and L).and (Xg c)) ω ((i : Int), x)) (Og c) tb { D with nx := Lp B (M.and L) (Jv (i + 1)) Xg Og sg, ct := Lp B (M.and L) (Jv (i + 1)) Xg Og sg, bk := tz D } (tg.put ω (sg c)))
    (hd : ∀ (L : Asr) c, Jv xs.length c → St B ((M.and L).and (Xg c)) (Og c) tz D (sg c)) (s0 : σ = sg g0 := by rfl) (o0 : O = Og g0 := by rfl) : St B M O (tSeq (tFor (iEnumT K ta) g tb) tz) D σ := fun G H m e w =>
  h G H m (w.wl e) _ fun vs0 G1 H1 e1 ⟨v, vs', ev0, ⟨a, vs, ev, hq, fa, z⟩, hnil⟩ => by
    have hn2 : vs' = [] := hnil
    subst hn2 ev
    have eB := B.ext e e1
    subst s0 o0
    have hn := fa.length
    refine ⟨a, vs, ev0, e1.gh.sqT hq, ?_⟩
    refine for_core (D := { D with nx := tz D }) (N := M.and ⟨fun G => SqT K G a vs ∧ Fa (t.r G) vs xs, fun l x => ⟨l.sqT x.1, x.2.imp fun _ _ => t.mono l⟩⟩) (xs := (List.range xs.length).zip xs |>.map fun p => ((p.1 : Int), p.2)) (t := tPair K tInt t) (Gd := fun H => SqT K H a vs) (Y := YPair (fun i => some (.int (i : Nat))) (fun i => vs[i]?)) ?w (fun m e => (B.le e).sqT m.2.1) (fun {i H v H2 G} m e y => ?yd) tg Jv Xg Og sg g0 j0
      ⟨G1, ⟨⟨M.mono (e1.le (B.le e)) m, hq, fa⟩, x0 G1 (M.mono (e1.le (B.le e)) m)⟩, eB, w.ext e1⟩ (fun i x ω c hx => ?hs) (fun c jc => hd _ c (by rw [show ((List.range xs.length).zip xs |>.map fun p => ((p.1 : Int), p.2)).length = xs.length by simp] at jc; exact jc))
    case w =>
      rw [show ((List.range xs.length).zip xs |>.map fun p => ((p.1 : Int), p.2)).length = vs.length by simp [hn]]
      exact walk_enumT
    case yd =>
      obtain ⟨T, x1, x2, rfl, hT, rfl, h1, h2⟩ := y
      obtain ⟨x, hx, r⟩ := m.2.2.get h2
      have l1 := Ext.new (o := .tup [x1, x2]) (B.le e) hT
      have hi : i < xs.length := (List.getElem?_eq_some_iff.mp hx).1
      refine ⟨_, ((i : Int), x), l1, ?_, T, x1, x2, rfl, .of upd_same, (Option.some.inj h1).symm, t.mono (l1.le (B.le e)) r⟩
      have q : ((List.range xs.length).zip xs)[i]? = some (i, x) := List.getElem?_zip_eq_some.mpr ⟨List.getElem?_range hi, hx⟩
      rw [List.getElem?_map, q]
      rfl
    case hs =>
      rw [List.getElem?_map] at hx
      cases q : ((List.range xs.length).zip xs)[i]? with
      | none => rw [q] at hx; cases hx
      | some p =>
        rw [q] at hx
        obtain ⟨h1, h2⟩ := List.getElem?_zip_eq_some.mp q
        have hi : i < xs.length := (List.getElem?_eq_some_iff.mp h2).1
        rw [List.getElem?_range hi] at h1
        have e1 : i = p.1 := Option.some.inj h1
        have e2 : x = ((i : Int), p.2) := by rw [e1]; exact (Option.some.inj hx).symm
        subst e2
        intro hω jc
        exact hs _ i p.2 ω c h2 hω jc
end
end G3
set_option maxRecDepth 100000
set_option maxHeartbeats 4000000
/-! G11: the rules with the written part named, so that they stand within a comprehension too. -/
namespace G3
open PySem PySem.Spec PyProof.Rows L2
section
variable {X : Cx} (K : PySem.W.Frag)
theorem ixT (h : X.K = K := by rfl) : IxR X (rIxT K) := by subst h; exact ix_tup
theorem ixL (h : X.K = K := by rfl) : IxR X (rIxL K) := by subst h; exact ix_list
theorem k_len (h : X.K = K := by rfl) : CallR X (.builtin "len") (rLenX K) := by subst h; exact c_len
theorem k_list (h : X.K = K := by rfl) : CallR X (.type "list") (rList K) := by subst h; exact c_list
theorem k_tuple (h : X.K = K := by rfl) : CallR X (.type "tuple") (rTuple K) := by subst h; exact c_tuple
theorem k_isi (h : X.K = K := by rfl) : CallR X (.builtin "isinstance") (rIsi K) := by subst h; exact call_isi
theorem k_isiT (h : X.K = K := by rfl) : CallR X (.builtin "isinstance") (rIsiT K) := by subst h; exact call_isiT
theorem k_sum (hc : X.calm = true) (h : X.K = K := by rfl) : CallR X (.builtin "sum") (rSum K) := by subst h; exact cr_sum hc
theorem k_all (hc : X.calm = true) (h : X.K = K := by rfl) : CallR X (.builtin "all") (rAll K) := by subst h; exact cr_all hc
theorem o_in (h : X.K = K := by rfl) : OpR X (compareOp .In) (rIn K false) := by subst h; exact op_in_seq
theorem o_nin (h : X.K = K := by rfl) : OpR X (compareOp .NotIn) (rIn K true) := by subst h; exact op_notIn_seq
theorem o_eqEK (hu : X.A.units < cLine) (h : X.K = K := by rfl) : OpR X (compareOp .Eq) (rEqE K) := by subst h; exact o_eqE hu
theorem o_neEK (hu : X.A.units < cLine) (h : X.K = K := by rfl) : OpR X (compareOp .NotEq) (rNeE K) := by subst h; exact o_neE hu
theorem k_count (h : X.K = K := by rfl) : MtR X "list.count" (rCntS K) := by subst h; exact mt_countS
variable {o e : Expr} {es : List Expr} {to : TE} {t : TA} {name : Str} {apos cpos pos : Pos} {T id : String} {r : V → List V → Hp → VK → Prop} {f : Str}
theorem k_bm (h : X.K = K) (pa : PlainAttrs T) (slot : Slot T name id) (hty : typeOf (.builtin id) = pure (.type "method_descriptor")) (hm : MtR X id r) (ho : PE X o to) (ha : PA X (e :: es) t)
    (hbase : attributeBase o name X.env (eval o X.env) = eval o X.env := by rfl)
    (hfew : ((backTo cpos (starEach (e :: es) X.env)).all (fun x => !x.1) && (backToKw cpos (keywordEach [] X.env)).all (fun x => x.1.isSome)
      && decide ((e :: es).length + ([] : List Keyword).length + (if ([] : List Keyword).isEmpty then 0 else 1) < 30)) = true := by rfl)
    (hline : (apos.endLine == cpos.line) = true := by rfl) (hs : starEach (e :: es) X.env = (false, eval e X.env) :: starEach es X.env := by rfl) (hplain : (backTo cpos (starEach es X.env)).any (·.1) = false := by rfl) :
    PE X (.Call (.Attribute o name apos) (e :: es) [] cpos) (tBM K T r to t) := by subst h; exact pe_bm pa slot hty hm ho ha hbase hfew hline hs hplain
theorem k_fld (h : X.K = K) (he : PE X e to) (hb : attributeBase e f X.env (eval e X.env) = eval e X.env := by rfl) : PE X (.Attribute e f pos) (tFld K to f) := by subst h; exact pe_fld he hb
end
end G3
set_option maxRecDepth 100000
set_option maxHeartbeats 4000000
/-! F2: the methods of Held that only read; row_by, place_in. -/
namespace G3
open PySem PySem.Spec PyProof.Rows L2
/-! ### searches -/
section
variable {α : Type} {p : α → Bool} {xs : List α} {i : Nat} {x : α}
theorem find_at (hx : xs[i]? = some x) (hn : (xs.take i).find? p = none) (hp : p x = true) : xs.find? p = some x := by
  have hi := (List.getElem?_eq_some_iff.mp hx).1
  have e : xs = xs.take i ++ x :: xs.drop (i + 1) := by
    have q := List.take_append_drop i xs
    rw [List.drop_eq_getElem_cons hi, (List.getElem?_eq_some_iff.mp hx).2] at q
    exact q.symm
  rw [e, List.find?_append, hn, List.find?_cons, hp]
  rfl
theorem find_step (hx : xs[i]? = some x) (hn : (xs.take i).find? p = none) (hp : p x = false) : (xs.take (i + 1)).find? p = none := by
  rw [List.take_add_one, hx, List.find?_append, hn]
  show (none : Option α).or ([x].find? p) = none
  rw [List.find?_cons, hp]
  rfl
theorem find_end (hn : (xs.take xs.length).find? p = none) : xs.find? p = none := by
  rw [List.take_of_length_le (Nat.le_refl _)] at hn
  exact hn
end
def rowBy {β : Type} (rows : List (Str × β)) (n : Str) : Option (Str × β) := rows.find? fun r => decide (r.1 = n)
theorem dget_row {β : Type} (rows : List (Str × β)) (n : Str) : dget rows n = (rowBy rows n).map (·.2) := rfl
theorem rowBy_fst {β : Type} {rows : List (Str × β)} {n : Str} {r : Str × β} (h : rowBy rows n = some r) : r.1 = n ∧ r ∈ rows := by
  have h2 : rows.find? (fun r => decide (r.1 = n)) = some r := h
  exact ⟨of_decide_eq_true (List.find?_some (p := fun r : Str × β => decide (r.1 = n)) h2), List.mem_of_find?_eq_some h2⟩
/-- the number of the first group with a name -/
def placeIn : List (List Str) → Str → Option Int
  | [], _ => none
  | g :: r, n => if n ∈ g then some 0 else (placeIn r n).map (· + 1)
theorem placeIn_some (gs : List (List Str)) (n : Str) : (placeIn gs n).isSome = decide (∃ g ∈ gs, n ∈ g) := by
  induction gs with
  | nil => simp [placeIn]
  | cons g r ih =>
    unfold placeIn
    by_cases h : n ∈ g
    · rw [if_pos h]
      simp [h]
    · rw [if_neg h, Option.isSome_map, ih]
      simp [h]
theorem placeIn_at : ∀ {gs : List (List Str)} {n : Str} {i : Nat} {g : List Str}, gs[i]? = some g → (∀ h ∈ gs.take i, ¬ n ∈ h) → n ∈ g → placeIn gs n = some (i : Int)
  | [], _, _, _, hx, _, _ => by simp at hx
  | a :: r, n, 0, g, hx, _, hn => by
    have e : a = g := Option.some.inj hx
    subst e
    unfold placeIn
    rw [if_pos hn]
    rfl
  | a :: r, n, i + 1, g, hx, hh, hn => by
    unfold placeIn
    rw [if_neg (hh a (by simp)), placeIn_at (gs := r) (i := i) hx (fun h hm => hh h (by simp [hm])) hn]
    rfl
theorem placeIn_none : ∀ {gs : List (List Str)} {n : Str}, (∀ h ∈ gs, ¬ n ∈ h) → placeIn gs n = none
  | [], _, _ => rfl
  | a :: r, n, hh => by
    unfold placeIn
    rw [if_neg (hh a (by simp)), placeIn_none (gs := r) (fun h hm => hh h (by simp [hm]))]
    rfl
section
variable {M : Asr} {O : List (Addr × HO)} {σ : L2.St} {K : PySem.W.Frag} {α β Ω : Type} {t : Ty α} {u : Ty β} {te tl : TE} {g : TG} {vs : List Nat} {x : α}
theorem filter_yes (xs : List α) : xs.filter (fun _ => true) = xs := List.filter_eq_self.mpr fun _ _ => rfl
theorem ev_mapL {xs : List α} (tg : Tgt g t Ω) (gx : α → β) (h : Ev M O σ (tLst K t) tl xs) (he : ∀ (L : Asr) x ω, x ∈ xs → tg.ok ω x → Ev (tg.F (M.and L) ω x) O (tg.put ω (wipe σ vs)) u te (gx x)) (hw : ∀ ω, wipe (tg.put ω (wipe σ vs)) vs = wipe σ vs := by intro _; rfl) :
    Ev M O σ (tLst K u) (tLc (iList K tl) g tYes te vs) (xs.map gx) := ev_is (ev_lcL tg (fun _ => true) gx h (fun _ _ _ _ _ => et_yes) (fun L x ω h1 h2 _ => he L x ω h1 h2) hw) (by rw [filter_yes])
theorem ev_mapT {xs : List α} (tg : Tgt g t Ω) (gx : α → β) (h : Ev M O σ (tTup K t) tl xs) (he : ∀ (L : Asr) x ω, x ∈ xs → tg.ok ω x → Ev (tg.F (M.and L) ω x) O (tg.put ω (wipe σ vs)) u te (gx x)) (hw : ∀ ω, wipe (tg.put ω (wipe σ vs)) vs = wipe σ vs := by intro _; rfl) :
    Ev M O σ (tLst K u) (tLc (iTup K tl) g tYes te vs) (xs.map gx) := ev_is (ev_lcT tg (fun _ => true) gx h (fun _ _ _ _ _ => et_yes) (fun L x ω h1 h2 _ => he L x ω h1 h2) hw) (by rw [filter_yes])
theorem ev_some (h : Ev M O σ t te x) (hr : ∀ v, t.ok v x → ∃ a, v = .ref a) : Ev M O σ (tOpR t) te (some x) := fun G H m l Q q => h G H m l Q fun v G' H' e r => q v G' H' e ⟨hr v (t.of r), r⟩
theorem ev_none : Ev M O σ (tOpR t) (tC .non) none := fun G H m l Q q => q _ G H (.refl l.le) rfl
end
theorem ev_varR {M : Asr} {O : List (Addr × HO)} {σ : L2.St} {α : Type} {t : Ty α} {o : Option α} {i : Nat} {v : V} (h : σ[i]? = some (some v)) : Ev (M.is (tOpR t) v o) O σ (tOpR t) (tVar i) o := fun G H m l Q q => ⟨v, h, q v G H (.refl l.le) m.2⟩
section
variable {P : Program} {w : World} {K : PySem.W.Frag} {mg : Str → Option Value} {base : Heap} {C : Addr}
abbrev s_Lists_people : Stmt := inClass (top 55) 5
abbrev N_Lists_people : List Str := ["self", "row"]
theorem sc_Lists_people : FnScope N_Lists_people ["self"] (C8.fnScope s_Lists_people) := ⟨rfl, rfl, rfl, by decide +kernel, rfl, by decide +kernel, by decide +kernel⟩
theorem ok_people (c : HeldC K C mg) (Dd : Mn K C "people" "Lists.people" s_Lists_people ["self"]) : C8.Met P w K mg base 1 C "people" (SpF (aCons (tHeld K C) aNil) (fun _ => True) (tLst K tStr) fun i => i.1.people) [] := by
  refine met1 Dd sc_Lists_people fun f cdv A outer s H E hr => ⟨_, (pss_cons (ps_ret (pe_lc (own := [("row", 1)]) (g := gName 1) (tt := tYes) (by rfl) sc_Lists_people.nd (pi_tup (k_fld K rfl (pv 0))) (blkOk_by (own := [("row", 1)]) (N := N_Lists_people) (sc := C8.fnScope s_Lists_people) (by decide +kernel)) (fun _ _ _ _ _ => (pg_name (i := 1) sc_Lists_people.nd rfl (Or.inl rfl))) (fun _ _ _ _ _ => pts_nil) (fun _ _ _ _ _ => (pe_ix (ixT K) (pv 1) pe_int (fun _ _ => rfl))))) pss_nil), ?_⟩
  rintro B D v1 W h1 - ret -
  exact st_retF ret (ev_mapT (tgN _ 1) (·.1) (ev_folk ev_var c.cl c.nF) fun L x ω _ _ => ev_fst ev_var)
abbrev s_Lists_places : Stmt := inClass (top 55) 6
abbrev N_Lists_places : List Str := ["self", "row"]
theorem sc_Lists_places : FnScope N_Lists_places ["self"] (C8.fnScope s_Lists_places) := ⟨rfl, rfl, rfl, by decide +kernel, rfl, by decide +kernel, by decide +kernel⟩
theorem ok_places (c : HeldC K C mg) (Dd : Mn K C "places" "Lists.places" s_Lists_places ["self"]) : C8.Met P w K mg base 1 C "places" (SpF (aCons (tHeld K C) aNil) (fun _ => True) (tLst K tStr) fun i => i.1.places) [] := by
  refine met1 Dd sc_Lists_places fun f cdv A outer s H E hr => ⟨_, (pss_cons (ps_ret (pe_lc (own := [("row", 1)]) (g := gName 1) (tt := tYes) (by rfl) sc_Lists_places.nd (pi_tup (k_fld K rfl (pv 0))) (blkOk_by (own := [("row", 1)]) (N := N_Lists_places) (sc := C8.fnScope s_Lists_places) (by decide +kernel)) (fun _ _ _ _ _ => (pg_name (i := 1) sc_Lists_places.nd rfl (Or.inl rfl))) (fun _ _ _ _ _ => pts_nil) (fun _ _ _ _ _ => (pe_ix (ixT K) (pv 1) pe_int (fun _ _ => rfl))))) pss_nil), ?_⟩
  rintro B D v1 W h1 - ret -
  exact st_retF ret (ev_mapT (tgN _ 1) (·.1) (ev_spots ev_var c.cl c.nS) fun L x ω _ _ => ev_fst ev_var)
abbrev s_row_by : Stmt := top 54
abbrev N_row_by : List Str := ["rows", "name", "row"]
theorem sc_row_by : FnScope N_row_by ["rows", "name"] (C8.fnScope s_row_by) := ⟨rfl, rfl, rfl, by decide +kernel, rfl, by decide +kernel, by decide +kernel⟩
theorem ok_row_by (T : Bi mg) (Dd : Dn K mg "row_by" s_row_by ["rows", "name"]) {β : Type} (u : Ty β) : C8.Cal P w K mg base 1 "row_by" (SpF (aCons (tTup K (tPair K tStr u)) (aCons tStr aNil)) (fun _ => True) (tOpR (tPair K tStr u)) fun i => rowBy i.1 i.2.1) [] := by
  refine cal2 Dd sc_row_by fun f cdv A outer s H E hr => ⟨_, (pss_cons (ps_for PassesOwn.never rfl (pi_tup (pv 0)) (pg_name (i := 2) sc_row_by.nd rfl (Or.inl rfl))
    (pss_cons (ps_if ((pw_and (pt_val (pe_callB (k_isi K) (by rfl) T.isi (by decide +kernel) (pa_cons (pv 1) (pa_cons (pe_bltn (v := .ty "str") (u := .type "str") (by rfl) T.str (by decide +kernel) rfl) pa_nil)))) (pw_and1 (pt_cmpR op_eq (pe_ix (ixT K) (pv 2) pe_int (fun _ _ => rfl)) (pv 1) (nomark _))))).pt
      (pss_cons (ps_ret (pv 2)) pss_nil)
      pss_nil) pss_nil)) (
    pss_cons (ps_ret pe_non) pss_nil)), ?_⟩
  rintro B D v1 v2 rows n h1 rfl - ret -
  refine st_forT (tgN (tPair K tStr u) 2) (fun i (_ : Option V) => (rows.take i).find? (fun r => decide (r.1 = n)) = none) (fun _ => Asr.tt) (fun _ => []) (fun o => [some v1, some (.str n), o]) ev_var none rfl (fun _ _ => trivial) ?_ ?_
  · intro L i r ω c hx ho hc
    refine st_if (et_and (b := decide (r.1 = n)) (et_B (ev_isi (b := true) ev_var ty_str (by decide +kernel))) fun _ => et_test (ev_eqS (ev_fst ev_var) ev_var)) (fun hb => ?_) (fun hb => ?_)
    · exact st_retF ret (ev_some ev_var fun v h => h) (find_at hx hc (by simpa using hb)).symm
    · exact st_thru (st_turn rfl (some ω) (find_step hx hc (by simpa using hb)) fun _ _ => trivial)
  · intro L c hc
    exact st_retF ret ev_none (find_end hc).symm
abbrev s_place_in : Stmt := top 53
abbrev N_place_in : List Str := ["groups", "name", "at", "group"]
theorem sc_place_in : FnScope N_place_in ["groups", "name"] (C8.fnScope s_place_in) := ⟨rfl, rfl, rfl, by decide +kernel, rfl, by decide +kernel, by decide +kernel⟩
theorem ok_place_in (T : Bi mg) (Dd : Dn K mg "place_in" s_place_in ["groups", "name"]) : C8.Cal P w K mg base 1 "place_in" (SpF (aCons (tGrps K) (aCons tStr aNil)) (fun _ => True) (tOpt V.int) fun i => placeIn i.1 i.2.1) [] := by
  refine cal2 Dd sc_place_in fun f cdv A outer s H E hr => ⟨_, (pss_cons (ps_for PassesOwn.never rfl (pi_enumT (by rfl) T.enum (pa_cons (pv 0) pa_nil)) (pg_tup rfl (pgs_cons (pg_name (i := 2) sc_place_in.nd rfl (Or.inl rfl)) (pgs_cons (pg_name (i := 3) sc_place_in.nd rfl (Or.inl rfl)) pgs_nil)))
    (pss_cons (ps_if (pt_cmpR (o_in K) (pv 1) (pv 3) rfl)
      (pss_cons (ps_ret (pv 2)) pss_nil)
      pss_nil) pss_nil)) (
    pss_cons (ps_ret pe_non) pss_nil)), ?_⟩
  rintro B D v1 v2 gs n h1 rfl - ret -
  refine st_forET (tgP K tInt (tTup K tStr) 2 3) (fun i (_ : Option V × Option V) => ∀ h ∈ gs.take i, ¬ n ∈ h) (fun _ => Asr.tt) (fun _ => []) (fun o => [some v1, some (.str n), o.1, o.2]) (ea_cons ev_var ea_nil) (none, none) (fun h hm => by simp at hm) (fun _ _ => trivial) ?_ ?_
  · intro L i g ω c hx ho hc
    obtain ⟨ho1, ho2⟩ := ho
    obtain ⟨w1, w2⟩ := ω
    have ho1' : w1 = V.int (i : Int) := ho1
    subst ho1'
    refine st_if (et_test (ev_inT (xs := g) (k := n) ev_var ev_var)) (fun hb => ?_) (fun hb => ?_)
    · refine st_retF (y := some (i : Int)) ret (fun G H m l Q q => ?_) (placeIn_at hx hc (of_decide_eq_true hb)).symm
      exact (ev_var (t := tInt) (x := (i : Int)) rfl : Ev _ _ _ _ _ _) G H m l Q q
    · refine st_thru (st_turn rfl (some (.int i), some w2) ?_ fun _ _ => trivial)
      intro h hm
      rw [List.take_add_one, hx] at hm
      rcases List.mem_append.mp hm with q | q
      · exact hc h q
      · rw [List.mem_singleton.mp q]
        exact of_decide_eq_false hb
  · intro L c hc
    rw [List.take_of_length_le (Nat.le_refl _)] at hc
    exact st_retF (y := none) ret (fun G H m l Q q => q _ G H (.refl l.le) rfl) (placeIn_none hc).symm
abbrev s_Lists_is_person : Stmt := inClass (top 55) 7
abbrev N_Lists_is_person : List Str := ["self", "thing"]
theorem sc_Lists_is_person : FnScope N_Lists_is_person ["self", "thing"] (C8.fnScope s_Lists_is_person) := ⟨rfl, rfl, rfl, by decide +kernel, rfl, by decide +kernel, by decide +kernel⟩
theorem ok_is_person (T : Bi mg) (c : HeldC K C mg) (Dd : Mn K C "is_person" "Lists.is_person" s_Lists_is_person ["self", "thing"])
    (c_row_by : C8.Cal P w K mg base 1 "row_by" (SpF (aCons (tTup K (tPair K tStr (tGrps K))) (aCons tStr aNil)) (fun _ => True) (tOpR (tPair K tStr (tGrps K))) fun i => rowBy i.1 i.2.1) []) :
    C8.Met P w K mg base 2 C "is_person" (SpF (aCons (tHeld K C) (aCons tStr aNil)) (fun _ => True) tBool fun i => (rowBy i.1.rows i.2.1).isSome) [] := by
  refine met2 Dd sc_Lists_is_person fun f cdv A outer s H E hr => ⟨_, (pss_cons (ps_ret (pe_cmpR o_notN (C8.pe_c c_row_by hr (by decide) (by rfl) (pa_cons (k_fld K rfl (pv 0)) (pa_cons (pv 1) pa_nil))) pe_non (nomark _))) pss_nil), ?_⟩
  rintro B D v1 v2 W n h1 rfl - ret -
  exact st_retF ret (ev_notNR (ev_call (ea_cons (ev_folk ev_var c.cl c.nF) (ea_cons ev_var ea_nil)) trivial))
abbrev s_Lists_is_place : Stmt := inClass (top 55) 8
abbrev N_Lists_is_place : List Str := ["self", "thing"]
theorem sc_Lists_is_place : FnScope N_Lists_is_place ["self", "thing"] (C8.fnScope s_Lists_is_place) := ⟨rfl, rfl, rfl, by decide +kernel, rfl, by decide +kernel, by decide +kernel⟩
theorem ok_is_place (T : Bi mg) (c : HeldC K C mg) (Dd : Mn K C "is_place" "Lists.is_place" s_Lists_is_place ["self", "thing"])
    (c_row_by : C8.Cal P w K mg base 1 "row_by" (SpF (aCons (tTup K (tPair K tStr tInt)) (aCons tStr aNil)) (fun _ => True) (tOpR (tPair K tStr tInt)) fun i => rowBy i.1 i.2.1) []) :
    C8.Met P w K mg base 2 C "is_place" (SpF (aCons (tHeld K C) (aCons tStr aNil)) (fun _ => True) tBool fun i => (rowBy i.1.spots i.2.1).isSome) [] := by
  refine met2 Dd sc_Lists_is_place fun f cdv A outer s H E hr => ⟨_, (pss_cons (ps_ret (pe_cmpR o_notN (C8.pe_c c_row_by hr (by decide) (by rfl) (pa_cons (k_fld K rfl (pv 0)) (pa_cons (pv 1) pa_nil))) pe_non (nomark _))) pss_nil), ?_⟩
  rintro B D v1 v2 W n h1 rfl - ret -
  exact st_retF ret (ev_notNR (ev_call (ea_cons (ev_spots ev_var c.cl c.nS) (ea_cons ev_var ea_nil)) trivial))
abbrev s_Lists_person_row : Stmt := inClass (top 55) 9
abbrev N_Lists_person_row : List Str := ["self", "person", "row"]
theorem sc_Lists_person_row : FnScope N_Lists_person_row ["self", "person"] (C8.fnScope s_Lists_person_row) := ⟨rfl, rfl, rfl, by decide +kernel, rfl, by decide +kernel, by decide +kernel⟩
theorem ok_person_row (T : Bi mg) (c : HeldC K C mg) (Dd : Mn K C "person_row" "Lists.person_row" s_Lists_person_row ["self", "person"])
    (c_row_by : C8.Cal P w K mg base 1 "row_by" (SpF (aCons (tTup K (tPair K tStr (tGrps K))) (aCons tStr aNil)) (fun _ => True) (tOpR (tPair K tStr (tGrps K))) fun i => rowBy i.1 i.2.1) []) :
    C8.Met P w K mg base 2 C "person_row" (SpR (aCons (tHeld K C) (aCons tStr aNil)) (fun i => (rowBy i.1.rows i.2.1).isSome = true) (tPair K tStr (tGrps K)) fun i y => rowBy i.1.rows i.2.1 = some y) [] := by
  refine met2 Dd sc_Lists_person_row fun f cdv A outer s H E hr => ⟨_, (pss_cons (ps_set (i := 2) sc_Lists_person_row.nd rfl (Or.inl rfl) (C8.pe_c c_row_by hr (by decide) (by rfl) (pa_cons (k_fld K rfl (pv 0)) (pa_cons (pv 1) pa_nil)))) (
    pss_cons (ps_if (pt_cmpR o_isN (pv 2) pe_non (nomark _))
    (pss_cons ps_never pss_nil)
    pss_nil) (
    pss_cons (ps_ret (pv 2)) pss_nil))), ?_⟩
  rintro B D v1 v2 W n h1 rfl hp ret -
  obtain ⟨r, hr⟩ := Option.isSome_iff_exists.mp hp
  refine st_asg (ev_is (ev_call (ea_cons (ev_folk ev_var c.cl c.nF) (ea_cons ev_var ea_nil)) trivial) hr) fun v hv => ?_
  exact st_ifF (et_is (et_test (ev_isNR (o := some r) (ev_varR rfl))) rfl) (st_thru (st_retF ret ev_var hr))
abbrev s_Lists_place_row : Stmt := inClass (top 55) 10
abbrev N_Lists_place_row : List Str := ["self", "place", "row"]
theorem sc_Lists_place_row : FnScope N_Lists_place_row ["self", "place"] (C8.fnScope s_Lists_place_row) := ⟨rfl, rfl, rfl, by decide +kernel, rfl, by decide +kernel, by decide +kernel⟩
theorem ok_place_row (T : Bi mg) (c : HeldC K C mg) (Dd : Mn K C "place_row" "Lists.place_row" s_Lists_place_row ["self", "place"])
    (c_row_by : C8.Cal P w K mg base 1 "row_by" (SpF (aCons (tTup K (tPair K tStr tInt)) (aCons tStr aNil)) (fun _ => True) (tOpR (tPair K tStr tInt)) fun i => rowBy i.1 i.2.1) []) :
    C8.Met P w K mg base 2 C "place_row" (SpR (aCons (tHeld K C) (aCons tStr aNil)) (fun i => (rowBy i.1.spots i.2.1).isSome = true) (tPair K tStr tInt) fun i y => rowBy i.1.spots i.2.1 = some y) [] := by
  refine met2 Dd sc_Lists_place_row fun f cdv A outer s H E hr => ⟨_, (pss_cons (ps_set (i := 2) sc_Lists_place_row.nd rfl (Or.inl rfl) (C8.pe_c c_row_by hr (by decide) (by rfl) (pa_cons (k_fld K rfl (pv 0)) (pa_cons (pv 1) pa_nil)))) (
    pss_cons (ps_if (pt_cmpR o_isN (pv 2) pe_non (nomark _))
    (pss_cons ps_never pss_nil)
    pss_nil) (
    pss_cons (ps_ret (pv 2)) pss_nil))), ?_⟩
  rintro B D v1 v2 W n h1 rfl hp ret -
  obtain ⟨r, hr⟩ := Option.isSome_iff_exists.mp hp
  refine st_asg (ev_is (ev_call (ea_cons (ev_spots ev_var c.cl c.nS) (ea_cons ev_var ea_nil)) trivial) hr) fun v hv => ?_
  exact st_ifF (et_is (et_test (ev_isNR (o := some r) (ev_varR rfl))) rfl) (st_thru (st_retF ret ev_var hr))
end
end G3
set_option maxRecDepth 100000
set_option maxHeartbeats 4000000
/-! F3: more methods; first groups, wishes, rooms, dealings in order. -/
namespace G3
open PySem PySem.Spec PyProof.Rows L2
def Wo.groups (W : Wo) (p : Str) : List (List Str) := (dget W.rows p).getD []
def Wo.first (W : Wo) (p : Str) : List Str := (W.groups p).headD []
def Wo.hold (W : Wo) (q : Str) : Int := (dget W.spots q).getD 0
theorem row_some {β : Type} {rows : List (Str × β)} {n : Str} (h : n ∈ rows.map (·.1)) : (rowBy rows n).isSome = true := by
  obtain ⟨r, hr, e⟩ := List.mem_map.mp h
  unfold rowBy
  rw [List.find?_isSome]
  exact ⟨r, hr, decide_eq_true e⟩
theorem row_mem {β : Type} {rows : List (Str × β)} {n : Str} (h : (rowBy rows n).isSome = true) : n ∈ rows.map (·.1) := by
  obtain ⟨r, hr⟩ := Option.isSome_iff_exists.mp h
  obtain ⟨e, m⟩ := rowBy_fst hr
  exact List.mem_map.mpr ⟨r, m, e⟩
section
variable (P : Program) (w : World) (K : PySem.W.Frag) (mg : Str → Option Value) (base : Heap) (C : Addr)
abbrev P_row_by {β : Type} (u : Ty β) : Prop := C8.Cal P w K mg base 1 "row_by" (SpF (aCons (tTup K (tPair K tStr u)) (aCons tStr aNil)) (fun _ => True) (tOpR (tPair K tStr u)) fun i => rowBy i.1 i.2.1) []
abbrev P_place_in : Prop := C8.Cal P w K mg base 1 "place_in" (SpF (aCons (tGrps K) (aCons tStr aNil)) (fun _ => True) (tOpt V.int) fun i => placeIn i.1 i.2.1) []
abbrev P_people : Prop := C8.Met P w K mg base 1 C "people" (SpF (aCons (tHeld K C) aNil) (fun _ => True) (tLst K tStr) fun i => i.1.people) []
abbrev P_places : Prop := C8.Met P w K mg base 1 C "places" (SpF (aCons (tHeld K C) aNil) (fun _ => True) (tLst K tStr) fun i => i.1.places) []
abbrev P_is_person : Prop := C8.Met P w K mg base 2 C "is_person" (SpF (aCons (tHeld K C) (aCons tStr aNil)) (fun _ => True) tBool fun i => (rowBy i.1.rows i.2.1).isSome) []
abbrev P_is_place : Prop := C8.Met P w K mg base 2 C "is_place" (SpF (aCons (tHeld K C) (aCons tStr aNil)) (fun _ => True) tBool fun i => (rowBy i.1.spots i.2.1).isSome) []
abbrev P_person_row : Prop := C8.Met P w K mg base 2 C "person_row" (SpR (aCons (tHeld K C) (aCons tStr aNil)) (fun i => (rowBy i.1.rows i.2.1).isSome = true) (tPair K tStr (tGrps K)) fun i y => rowBy i.1.rows i.2.1 = some y) []
abbrev P_place_row : Prop := C8.Met P w K mg base 2 C "place_row" (SpR (aCons (tHeld K C) (aCons tStr aNil)) (fun i => (rowBy i.1.spots i.2.1).isSome = true) (tPair K tStr tInt) fun i y => rowBy i.1.spots i.2.1 = some y) []
abbrev P_groups_of : Prop := C8.Met P w K mg base 3 C "groups_of" (SpF (aCons (tHeld K C) (aCons tStr aNil)) (fun i => (rowBy i.1.rows i.2.1).isSome = true) (tGrps K) fun i => i.1.groups i.2.1) []
abbrev P_holders : Prop := C8.Met P w K mg base 3 C "holders" (SpF (aCons (tHeld K C) (aCons tStr aNil)) (fun i => (rowBy i.1.spots i.2.1).isSome = true) tInt fun i => i.1.hold i.2.1) []
abbrev P_places_vote : Prop := C8.Met P w K mg base 1 C "places_vote" (SpF (aCons (tHeld K C) aNil) (fun _ => True) tBool fun _ => false) []
abbrev P_rank : Prop := C8.Met P w K mg base 4 C "rank" (SpF (aCons (tHeld K C) (aCons tStr (aCons tStr aNil))) (fun i => (rowBy i.1.rows i.2.1).isSome = true ∧ (rowBy i.1.spots i.2.2.1).isSome = true) (tOpt V.int) fun i => placeIn (i.1.groups i.2.1) i.2.2.1) []
abbrev P_is_pair : Prop := C8.Met P w K mg base 5 C "is_pair" (SpF (aCons (tHeld K C) (aCons tStr (aCons tStr aNil))) (fun _ => True) tBool fun i => (rowBy i.1.rows i.2.1).isSome && ((rowBy i.1.spots i.2.2.1).isSome && (placeIn (i.1.groups i.2.1) i.2.2.1).isSome)) []
abbrev P_need_held : Prop := C8.Cal P w K mg base 2 "need_held" (SpF (aCons (tHeld K C) aNil) (fun _ => True) tNon fun _ => ()) []
abbrev P_first_group : Prop := C8.Cal P w K mg base 4 "first_group" (SpF (aCons (tHeld K C) (aCons tStr aNil)) (fun i => (rowBy i.1.rows i.2.1).isSome = true) (tLst K tStr) fun i => i.1.first i.2.1) []
abbrev P_firsts_wishes : Prop := C8.Cal P w K mg base 5 "firsts_wishes" (SpF (aCons (tHeld K C) aNil) (fun i => i.1.people.Nodup ∧ i.1.people.length ≤ 10) (tDct (tLst K tStr)) fun i => i.1.people.map fun p => (p, i.1.first p)) []
abbrev P_in_order : Prop := C8.Cal P w K mg base 2 "in_order" (SpF (aCons (tHeld K C) (aCons (tDct tStr) aNil)) (fun i => i.1.people.Nodup ∧ i.1.people.length ≤ 10) (tDct tStr) fun i => i.1.people.filterMap fun p => (dget i.2.1 p).map fun q => (p, q)) []
end
section
variable {P : Program} {w : World} {K : PySem.W.Frag} {mg : Str → Option Value} {base : Heap} {C : Addr}
abbrev s_Lists_groups_of : Stmt := inClass (top 55) 11
abbrev N_Lists_groups_of : List Str := ["self", "person"]
theorem sc_Lists_groups_of : FnScope N_Lists_groups_of ["self", "person"] (C8.fnScope s_Lists_groups_of) := ⟨rfl, rfl, rfl, by decide +kernel, rfl, by decide +kernel, by decide +kernel⟩
theorem ok_groups_of (T : Bi mg) (Dd : Mn K C "groups_of" "Lists.groups_of" s_Lists_groups_of ["self", "person"]) (m_person_row : P_person_row P w K mg base C) : P_groups_of P w K mg base C := by
  refine met2 Dd sc_Lists_groups_of fun f cdv A outer s H E hr => ⟨_, (pss_cons (ps_ret (pe_ix (ixT K) (C8.pe_mt m_person_row hr (by decide) (pv 0) (pa_cons (pv 1) pa_nil)) pe_int (fun _ _ => rfl))) pss_nil), ?_⟩
  rintro B D v1 v2 W n h1 rfl hp ret -
  refine st_ret ret fun G H m l Q q => ?_
  refine evr_meth (ta := tVar 0) (A := aCons tStr aNil) (i := (n, ())) ev_var (ea_cons ev_var ea_nil) hp (by decide +kernel) (by decide +kernel) G H m l _ fun v y G1 H1 e1 hy r1 => ?_
  obtain ⟨a, v1, v2, e, h, g1, g2⟩ := r1
  refine ⟨a, [v1, v2], 1, v2, e, rfl, e1.gh.sqT h, rfl, q v2 y.2 G1 H1 e1 ?_ g2⟩
  show y.2 = W.groups n
  unfold Wo.groups
  rw [dget_row, show rowBy W.rows n = some y from hy]
  rfl
abbrev s_Held_holders : Stmt := inClass (top 56) 6
abbrev N_Held_holders : List Str := ["self", "place"]
theorem sc_Held_holders : FnScope N_Held_holders ["self", "place"] (C8.fnScope s_Held_holders) := ⟨rfl, rfl, rfl, by decide +kernel, rfl, by decide +kernel, by decide +kernel⟩
theorem ok_holders (T : Bi mg) (Dd : Mn K C "holders" "Held.holders" s_Held_holders ["self", "place"]) (m_place_row : P_place_row P w K mg base C) : P_holders P w K mg base C := by
  refine met2 Dd sc_Held_holders fun f cdv A outer s H E hr => ⟨_, (pss_cons (ps_ret (pe_ix (ixT K) (C8.pe_mt m_place_row hr (by decide) (pv 0) (pa_cons (pv 1) pa_nil)) pe_int (fun _ _ => rfl))) pss_nil), ?_⟩
  rintro B D v1 v2 W n h1 rfl hp ret -
  refine st_ret ret fun G H m l Q q => ?_
  refine evr_meth (ta := tVar 0) (A := aCons tStr aNil) (i := (n, ())) ev_var (ea_cons ev_var ea_nil) hp (by decide +kernel) (by decide +kernel) G H m l _ fun v y G1 H1 e1 hy r1 => ?_
  obtain ⟨a, v1, v2, e, h, g1, g2⟩ := r1
  refine ⟨a, [v1, v2], 1, v2, e, rfl, e1.gh.sqT h, rfl, q v2 y.2 G1 H1 e1 ?_ g2⟩
  show y.2 = W.hold n
  unfold Wo.hold
  rw [dget_row, show rowBy W.spots n = some y from hy]
  rfl
abbrev s_Held_places_vote : Stmt := inClass (top 56) 10
abbrev N_Held_places_vote : List Str := ["self"]
theorem sc_Held_places_vote : FnScope N_Held_places_vote ["self"] (C8.fnScope s_Held_places_vote) := ⟨rfl, rfl, rfl, by decide +kernel, rfl, by decide +kernel, by decide +kernel⟩
theorem ok_places_vote (Dd : Mn K C "places_vote" "Held.places_vote" s_Held_places_vote ["self"]) : P_places_vote P w K mg base C := by
  refine met1 Dd sc_Held_places_vote fun f cdv A outer s H E hr => ⟨_, (pss_cons (ps_ret pe_bl) pss_nil), ?_⟩
  rintro B D v1 W h1 - ret -
  exact st_retF ret ev_bl
abbrev s_Lists_rank : Stmt := inClass (top 55) 14
abbrev N_Lists_rank : List Str := ["self", "person", "place", "groups"]
theorem sc_Lists_rank : FnScope N_Lists_rank ["self", "person", "place"] (C8.fnScope s_Lists_rank) := ⟨rfl, rfl, rfl, by decide +kernel, rfl, by decide +kernel, by decide +kernel⟩
theorem ok_rank (T : Bi mg) (Dd : Mn K C "rank" "Lists.rank" s_Lists_rank ["self", "person", "place"]) (m_groups_of : P_groups_of P w K mg base C) (m_place_row : P_place_row P w K mg base C) (c_place_in : P_place_in P w K mg base) : P_rank P w K mg base C := by
  refine met3 Dd sc_Lists_rank fun f cdv A outer s H E hr => ⟨_, (pss_cons (ps_set (i := 3) sc_Lists_rank.nd rfl (Or.inl rfl) (C8.pe_mt m_groups_of hr (by decide) (pv 0) (pa_cons (pv 1) pa_nil))) (
    pss_cons (ps_expr (C8.pe_mt m_place_row hr (by decide) (pv 0) (pa_cons (pv 2) pa_nil))) (
    pss_cons (ps_ret (C8.pe_c c_place_in hr (by decide) (by rfl) (pa_cons (pv 3) (pa_cons (pv 2) pa_nil)))) pss_nil))), ?_⟩
  rintro B D v1 v2 v3 W p q h1 rfl rfl hp ret -
  refine st_asg (ev_meth ev_var (ea_cons ev_var ea_nil) hp.1) fun v hv => ?_
  refine st_dropR (evr_meth ev_var (ea_cons ev_var ea_nil) hp.2) fun _ _ => ?_
  exact st_retF ret (ev_call (ea_cons ev_var (ea_cons ev_var ea_nil)) trivial)
abbrev s_Held_is_pair : Stmt := inClass (top 56) 8
abbrev N_Held_is_pair : List Str := ["self", "person", "place"]
theorem sc_Held_is_pair : FnScope N_Held_is_pair ["self", "person", "place"] (C8.fnScope s_Held_is_pair) := ⟨rfl, rfl, rfl, by decide +kernel, rfl, by decide +kernel, by decide +kernel⟩
theorem ok_is_pair (T : Bi mg) (Dd : Mn K C "is_pair" "Held.is_pair" s_Held_is_pair ["self", "person", "place"]) (m_is_person : P_is_person P w K mg base C) (m_is_place : P_is_place P w K mg base C) (m_rank : P_rank P w K mg base C) : P_is_pair P w K mg base C := by
  refine met3 Dd sc_Held_is_pair fun f cdv A outer s H E hr => ⟨_, (pss_cons (ps_if ((pw_or (pt_not (pt_val (C8.pe_mt m_is_person hr (by decide) (pv 0) (pa_cons (pv 1) pa_nil)))) (pw_or1 (pt_not (pt_val (C8.pe_mt m_is_place hr (by decide) (pv 0) (pa_cons (pv 2) pa_nil))))))).pt
    (pss_cons (ps_ret pe_bl) pss_nil)
    pss_nil) (
    pss_cons (ps_ret (pe_cmpR o_notN (C8.pe_mt m_rank hr (by decide) (pv 0) (pa_cons (pv 1) (pa_cons (pv 2) pa_nil))) pe_non (nomark _))) pss_nil)), ?_⟩
  rintro B D v1 v2 v3 W p q h1 rfl rfl - ret -
  refine st_if (et_or (et_not (et_B (ev_meth ev_var (ea_cons ev_var ea_nil) trivial))) fun _ => et_not (et_B (ev_meth ev_var (ea_cons ev_var ea_nil) trivial))) (fun hb => ?_) (fun hb => ?_)
  · refine st_retF ret ev_bl ?_
    simp only [Bool.or_eq_true, Bool.not_eq_true'] at hb
    rcases hb with hb | hb <;> simp [hb]
  · simp only [Bool.or_eq_false_iff, Bool.not_eq_false'] at hb
    refine st_thru (st_retF ret (ev_notN (x := placeIn (W.groups p) q) (f := oV V.int) (b := (placeIn (W.groups p) q).isSome) (ev_meth ev_var (ea_cons ev_var (ea_cons ev_var ea_nil)) ⟨hb.1, hb.2⟩) ?_) ?_)
    · cases placeIn (W.groups p) q <;> rfl
    · simp [hb.1, hb.2]
abbrev s_need_held : Stmt := top 22
abbrev N_need_held : List Str := ["lists"]
theorem sc_need_held : FnScope N_need_held ["lists"] (C8.fnScope s_need_held) := ⟨rfl, rfl, rfl, by decide +kernel, rfl, by decide +kernel, by decide +kernel⟩
theorem ok_need_held (T : Bi mg) (Dd : Dn K mg "need_held" s_need_held ["lists"]) (m_places_vote : P_places_vote P w K mg base C) : P_need_held P w K mg base C := by
  refine cal1 Dd sc_need_held fun f cdv A outer s H E hr => ⟨_, (pss_cons (ps_if (pt_val (C8.pe_mt0 m_places_vote hr (by decide) (pv 0)))
    (pss_cons ps_never pss_nil)
    pss_nil) pss_nil), ?_⟩
  rintro B D v1 W h1 - ret hn
  refine st_ifF (et_is (et_B (ev_meth ev_var ea_nil trivial)) rfl) (st_thru (st_end fun G H m e w => hn _ _ (ret _ () G H e rfl rfl)))
abbrev s_first_group : Stmt := top 23
abbrev N_first_group : List Str := ["lists", "person", "groups"]
theorem sc_first_group : FnScope N_first_group ["lists", "person"] (C8.fnScope s_first_group) := ⟨rfl, rfl, rfl, by decide +kernel, rfl, by decide +kernel, by decide +kernel⟩
theorem ok_first_group (T : Bi mg) (Dd : Dn K mg "first_group" s_first_group ["lists", "person"]) (m_groups_of : P_groups_of P w K mg base C) : P_first_group P w K mg base C := by
  refine cal2 Dd sc_first_group fun f cdv A outer s H E hr => ⟨_, (pss_cons (ps_set (i := 2) sc_first_group.nd rfl (Or.inl rfl) (C8.pe_mt m_groups_of hr (by decide) (pv 0) (pa_cons (pv 1) pa_nil))) (
    pss_cons (ps_if (pt_cmpR op_eq (pe_callB (k_len K) (by rfl) T.len (by decide +kernel) (pa_cons (pv 2) pa_nil)) pe_int (nomark _))
    (pss_cons (ps_ret (pe_lst pa_nil)) pss_nil)
    pss_nil) (
    pss_cons (ps_ret (pe_callTy c_list (by rfl) T.list (by decide +kernel) (pa_cons (pe_ix (ixT K) (pv 2) pe_int (fun _ _ => rfl)) pa_nil))) pss_nil))), ?_⟩
  rintro B D v1 v2 W p h1 rfl hp ret -
  refine st_asg (ev_meth ev_var (ea_cons ev_var ea_nil) hp) fun v hv => ?_
  refine st_if (et_test (ev_eqI (ev_lenT ev_var) ev_int)) (fun hb => ?_) (fun hb => ?_)
  · refine st_retF ret ev_nilL ?_
    have h9 : ((W.groups p).length : Int) = 0 := of_decide_eq_true hb
    have h0 : (W.groups p).length = 0 := by omega
    show [] = W.first p
    unfold Wo.first
    rw [List.eq_nil_of_length_eq_zero h0]
    rfl
  · have h0 : ¬ ((W.groups p).length : Int) = 0 := of_decide_eq_false hb
    obtain ⟨g, r, hg⟩ : ∃ g r, W.groups p = g :: r := by
      cases q : W.groups p with
      | nil => rw [q] at h0; exact absurd rfl h0
      | cons g r => exact ⟨g, r, rfl⟩
    refine st_thru (st_retF ret (ev_listT (ev_ixT (x := g) (i := 0) ev_var ev_int rfl (by show (W.groups p)[0]? = _; rw [hg]; rfl))) ?_)
    show g = W.first p
    unfold Wo.first
    rw [hg]
    rfl
theorem dput_new {α : Type} {xs : List (Str × α)} {k : Str} (x : α) (h : k ∉ xs.map (·.1)) : dput xs k x = xs ++ [(k, x)] := by
  unfold dput
  rw [if_neg]
  intro z
  obtain ⟨a, ha, e⟩ := List.any_eq_true.mp z
  exact h (List.mem_map.mpr ⟨a, ha, of_decide_eq_true e⟩)
theorem pub_dA {M : Asr} {α : Type} {f : α → V} {xs : List (Str × α)} {p : Addr} (hl : xs.length ≤ 1000) : ∀ G, M.p G → G p = none → Le G (upd G p (.dK (akv f xs))) → (tDct (aty f)).r (upd G p (.dK (akv f xs))) (.ref p) xs :=
  fun G _ _ _ => ⟨p, _, rfl, .inl upd_same, Fa.akv xs, by rw [akv_len]; exact sz _ hl⟩
theorem pub_dK {M : Asr} {α : Type} {t : Ty α} {kvs : List (Key × V)} {xs : List (Str × α)} {p : Addr} [h : HasK M kvs t xs] (hl : xs.length ≤ 1000) : ∀ G, M.p G → G p = none → Le G (upd G p (.dK kvs)) → (tDct t).r (upd G p (.dK kvs)) (.ref p) xs :=
  fun G m _ l => ⟨p, _, rfl, .inl upd_same, (h.get m).imp fun _ _ z => ⟨z.1, t.mono l z.2⟩, by rw [(h.get m).length]; exact sz _ hl⟩
theorem pub_lA {M : Asr} {K : PySem.W.Frag} {α : Type} {f : α → V} {xs : List α} {p : Addr} (hl : xs.length ≤ 1000) : ∀ G, M.p G → G p = none → Le G (upd G p (.lst (xs.map f))) → (tLst K (aty f)).r (upd G p (.lst (xs.map f))) (.ref p) xs :=
  fun G _ _ _ => ⟨p, _, rfl, .of upd_same, Fa.of_atoms xs, by rw [List.length_map]; exact sz _ hl⟩
theorem pub_lK {M : Asr} {K : PySem.W.Frag} {α : Type} {t : Ty α} {vs : List V} {xs : List α} {p : Addr} [h : HasL M vs t xs] (hl : xs.length ≤ 1000) : ∀ G, M.p G → G p = none → Le G (upd G p (.lst vs)) → (tLst K t).r (upd G p (.lst vs)) (.ref p) xs :=
  fun G m _ l => ⟨p, _, rfl, .of upd_same, (h.get m).imp fun _ _ => t.mono l, by rw [(h.get m).length]; exact sz _ hl⟩
@[reducible] def kvsA {α : Type} (t : Ty α) (kvs : List (Key × V)) (xs : List (Str × α)) : Asr := ⟨fun G => Fa (kvR t G) kvs xs, fun x g => g.imp fun _ _ z => ⟨z.1, t.mono x z.2⟩⟩
@[reducible] def itsA {α : Type} (t : Ty α) (vs : List V) (xs : List α) : Asr := ⟨fun G => Fa (t.r G) vs xs, fun x g => g.imp fun _ _ => t.mono x⟩
instance {α : Type} {t : Ty α} {kvs} {xs : List (Str × α)} : HasK (kvsA t kvs xs) kvs t xs := ⟨fun m => m⟩
instance {α : Type} {t : Ty α} {vs} {xs : List α} : HasL (itsA t vs xs) vs t xs := ⟨fun m => m⟩
theorem take_map_snoc {α β : Type} {xs : List α} {i : Nat} {x : α} (g : α → β) (hx : xs[i]? = some x) : (xs.take (i + 1)).map g = (xs.take i).map g ++ [g x] := by
  rw [List.take_add_one, hx, List.map_append]
  rfl
theorem not_mem_take {α : Type} {xs : List α} {i : Nat} {x : α} (hn : xs.Nodup) (hx : xs[i]? = some x) : x ∉ xs.take i := by
  intro h
  obtain ⟨j, hj, e⟩ := List.getElem_of_mem h
  have hj2 : j < i ∧ j < xs.length := by rw [List.length_take] at hj; omega
  have e2 : xs[j]? = some x := by
    rw [List.getElem?_eq_getElem hj2.2, ← e, List.getElem_take]
  have := nd_ix hn e2 hx
  omega
abbrev s_firsts_wishes : Stmt := top 24
abbrev N_firsts_wishes : List Str := ["lists", "wishes", "person"]
theorem sc_firsts_wishes : FnScope N_firsts_wishes ["lists"] (C8.fnScope s_firsts_wishes) := ⟨rfl, rfl, rfl, by decide +kernel, rfl, by decide +kernel, by decide +kernel⟩
theorem ok_firsts_wishes (T : Bi mg) (Dd : Dn K mg "firsts_wishes" s_firsts_wishes ["lists"]) (m_people : P_people P w K mg base C) (c_first_group : P_first_group P w K mg base C) : P_firsts_wishes P w K mg base C := by
  refine cal1 Dd sc_firsts_wishes fun f cdv A outer s H E hr => ?_
  have hu := hu_of hr
  refine ⟨_, (pss_cons (ps_set (i := 1) sc_firsts_wishes.nd rfl (Or.inl rfl) pe_dnewK) (
    pss_cons (ps_for PassesOwn.never rfl (pi_list (C8.pe_mt0 m_people hr (by decide) (pv 0))) (pg_name (i := 2) sc_firsts_wishes.nd rfl (Or.inl rfl))
    (pss_cons (ps_dput hu (pv 1) (pv 2) (C8.pe_c c_first_group hr (by decide) (by rfl) (pa_cons (pv 0) (pa_cons (pv 2) pa_nil))) rfl) pss_nil)) (
    pss_cons (ps_ret (pv 1)) pss_nil))), ?_⟩
  rintro B D v1 W h1 ⟨hN, hl⟩ ret -
  have hl2 : W.people.length ≤ 10 := hl
  refine st_newD fun p => ?_
  refine st_forL (tgN tStr 2) (fun i (γ : Option V × List (Key × V) × List (Str × List Str)) => γ.2.2 = ((W.people.take i).map fun q => (q, W.first q)) ∧ γ.2.1.length ≤ i) (fun γ => kvsA (tLst K tStr) γ.2.1 γ.2.2) (fun γ => [(p, .dK γ.2.1)]) (fun γ => [some v1, some (.ref p), γ.1]) (ev_meth ev_var ea_nil trivial) (none, [], []) ⟨rfl, Nat.zero_le _⟩ (fun _ _ => .nil) ?_ ?_
  · rintro L i q ω ⟨o, kvs, c⟩ hx ho ⟨hc, hk⟩
    have ho2 : ω = V.str q := ho
    subst ho2
    dsimp only at hc hk
    have hq : q ∈ W.people := List.mem_of_getElem? hx
    have hi : i < W.people.length := (List.getElem?_eq_some_iff.mp hx).1
    refine st_dput (j := 0) rfl (Nat.lt_of_le_of_lt hk (Nat.lt_of_lt_of_le hi (Nat.le_trans hl (by decide)))) (ev_call (ea_cons ev_var (ea_cons ev_var ea_nil)) (row_some hq)) ev_var fun v hv => ?_
    refine st_turn rfl (some (.str q), putK kvs (.inr q) v, dput c q (W.first q)) ⟨?_, Nat.le_trans (length_putK _ _ _) (Nat.succ_le_succ hk)⟩ (fun G m => Fa.kput m.1.1.2 q m.2)
    show dput c q (W.first q) = _
    rw [dput_new, hc, take_map_snoc _ hx]
    rw [hc, show ((W.people.take i).map fun q => (q, W.first q)).map (·.1) = W.people.take i by simp [Function.comp_def]]
    exact not_mem_take hN hx
  · rintro L ⟨o, kvs, c⟩ ⟨hc, hk⟩
    dsimp only at hc hk
    rw [List.take_of_length_le (Nat.le_refl _)] at hc
    subst hc
    exact st_pub (pub_dK (by rw [List.length_map]; omega)) (st_retF ret ev_var)
abbrev s_in_order : Stmt := top 19
abbrev N_in_order : List Str := ["lists", "dealing", "found", "person"]
theorem sc_in_order : FnScope N_in_order ["lists", "dealing"] (C8.fnScope s_in_order) := ⟨rfl, rfl, rfl, by decide +kernel, rfl, by decide +kernel, by decide +kernel⟩
theorem ok_in_order (T : Bi mg) (Dd : Dn K mg "in_order" s_in_order ["lists", "dealing"]) (m_people : P_people P w K mg base C) : P_in_order P w K mg base C := by
  refine cal2 Dd sc_in_order fun f cdv A outer s H E hr => ?_
  have hu := hu_of hr
  refine ⟨_, (pss_cons (ps_set (i := 2) sc_in_order.nd rfl (Or.inl rfl) pe_dnewK) (
    pss_cons (ps_for PassesOwn.never rfl (pi_list (C8.pe_mt0 m_people hr (by decide) (pv 0))) (pg_name (i := 3) sc_in_order.nd rfl (Or.inl rfl))
    (pss_cons (ps_if (pt_cmp (pc_din hu (pv 3) (pv 1)) rfl)
      (pss_cons (ps_dput hu (pv 2) (pv 3) (pe_dget hu (pv 1) (pv 3) (fun _ _ => rfl)) rfl) pss_nil)
      pss_nil) pss_nil)) (
    pss_cons (ps_ret (pv 2)) pss_nil))), ?_⟩
  rintro B D v1 v2 W d h1 h2 ⟨hN, hl⟩ ret -
  have hl2 : W.people.length ≤ 10 := hl
  have hl2 : W.people.length ≤ 10 := hl
  refine st_newD fun p => ?_
  refine st_forL (tgN tStr 3) (fun i (γ : Option V × List (Str × Str)) => γ.2 = (W.people.take i).filterMap fun q => (dget d q).map fun r => (q, r)) (fun _ => Asr.tt) (fun γ => [(p, .dK (akv V.str γ.2))]) (fun γ => [some v1, some v2, some (.ref p), γ.1]) (ev_meth ev_var ea_nil trivial) (none, []) rfl (fun _ _ => trivial) ?_ ?_
  · rintro L i q ω ⟨o, c⟩ hx ho hc
    have ho2 : ω = V.str q := ho
    subst ho2
    have hc2 : c = _ := hc
    have hcl : c.length ≤ 10 := by rw [hc2]; exact Nat.le_trans (List.length_filterMap_le _ _) (by rw [List.length_take]; omega)
    refine st_if (et_B (ev_din (k := q) ev_var ev_var)) (fun hb => ?_) (fun hb => ?_)
    · obtain ⟨r, hr⟩ := Option.isSome_iff_exists.mp hb
      refine st_dputA (j := 0) rfl (Nat.lt_of_le_of_lt hcl (by decide)) (ev_dget ev_var ev_var hr) ev_var ?_
      refine st_thru (st_turn rfl (some (.str q), dput c q r) ?_ (fun _ _ => trivial))
      show dput c q r = _
      rw [dput_new, hc2, List.take_add_one, hx, List.filterMap_append]
      · show _ = _ ++ ([q].filterMap _)
        rw [List.filterMap_cons, hr]
        rfl
      · rw [hc2]
        intro z
        obtain ⟨a, ha, e⟩ := List.mem_map.mp z
        obtain ⟨b, hb2, e2⟩ := List.mem_filterMap.mp ha
        cases q2 : dget d b with
        | none => rw [q2] at e2; cases e2
        | some r2 =>
          rw [q2] at e2
          have e3 : (b, r2) = a := Option.some.inj e2
          subst e3
          subst e
          exact not_mem_take hN hx hb2
    · refine st_thru (st_turn rfl (some (.str q), c) ?_ (fun _ _ => trivial))
      show c = _
      rw [hc2, List.take_add_one, hx, List.filterMap_append]
      show _ = _ ++ ([q].filterMap _)
      have hr : dget d q = none := by cases z : dget d q with | none => rfl | some r => rw [z] at hb; cases hb
      rw [List.filterMap_cons, hr]
      simp
  · rintro L ⟨o, c⟩ hc
    have hc2 : c = _ := hc
    rw [List.take_of_length_le (Nat.le_refl _)] at hc2
    subst hc2
    exact st_pub (pub_dA (Nat.le_trans (List.length_filterMap_le _ _) (Nat.le_trans hl2 (by decide)))) (st_retF ret ev_var)
end
end G3
set_option maxRecDepth 100000
set_option maxHeartbeats 4000000
/-! P1: plain facts on dicts as lists; what reach and led find. No program in sight. -/
namespace G3
open PySem L2
def keys {α : Type} (xs : List (Str × α)) : List Str := xs.map (·.1)
section
variable {α : Type} {xs ys : List (Str × α)} {k j : Str} {x : α}
theorem dget_cons {a : Str × α} : dget (a :: xs) k = if a.1 = k then some a.2 else dget xs k := by
  unfold dget
  rw [List.find?_cons]
  by_cases h : a.1 = k
  · rw [decide_eq_true h, if_pos h]
    rfl
  · rw [decide_eq_false h, if_neg h]
theorem dget_append : dget (xs ++ ys) k = (dget xs k).or (dget ys k) := by
  unfold dget
  rw [List.find?_append]
  cases xs.find? _ <;> rfl
theorem dget_isSome : (dget xs k).isSome = true ↔ k ∈ keys xs := by
  unfold dget keys
  rw [Option.isSome_map, List.find?_isSome, List.mem_map]
  exact ⟨fun ⟨a, h, e⟩ => ⟨a, h, of_decide_eq_true e⟩, fun ⟨a, h, e⟩ => ⟨a, h, decide_eq_true e⟩⟩
theorem dget_none : dget xs k = none ↔ k ∉ keys xs := by
  rw [← dget_isSome]
  cases dget xs k <;> simp
theorem dget_key (h : dget xs k = some x) : k ∈ keys xs := dget_isSome.mp (by rw [h]; rfl)
theorem dget_mem (h : dget xs k = some x) : (k, x) ∈ xs := by
  unfold dget at h
  cases e : xs.find? fun kx => decide (kx.1 = k) with
  | none =>
    rw [e] at h
    cases h
  | some y =>
    rw [e] at h
    have h1 : y.1 = k := of_decide_eq_true (List.find?_some (p := fun kx : Str × α => decide (kx.1 = k)) e)
    have h2 : y.2 = x := Option.some.inj h
    rw [← h1, ← h2]
    exact List.mem_of_find?_eq_some e
theorem mem_keys {a : Str × α} (h : a ∈ xs) : a.1 ∈ keys xs := List.mem_map.mpr ⟨a, h, rfl⟩
theorem nd_mem (hn : (keys xs).Nodup) (h : (k, x) ∈ xs) : dget xs k = some x := by
  induction xs with
  | nil => exact absurd h (by simp)
  | cons a r ih =>
    rw [dget_cons]
    have hn2 := List.nodup_cons.mp (show (a.1 :: keys r).Nodup from hn)
    rcases List.mem_cons.mp h with e | hr
    · rw [← e, if_pos rfl]
    · by_cases q : a.1 = k
      · exact absurd (mem_keys hr) (q ▸ hn2.1)
      · rw [if_neg q]
        exact ih hn2.2 hr
theorem any_key : (xs.any fun kx => decide (kx.1 = k)) = true ↔ k ∈ keys xs := by
  rw [List.any_eq_true]
  unfold keys
  rw [List.mem_map]
  exact ⟨fun ⟨a, h, e⟩ => ⟨a, h, of_decide_eq_true e⟩, fun ⟨a, h, e⟩ => ⟨a, h, decide_eq_true e⟩⟩
theorem dput_in (h : k ∈ keys xs) : dput xs k x = xs.map (fun kx => if kx.1 = k then (kx.1, x) else kx) := by
  unfold dput
  rw [if_pos (any_key.mpr h)]
theorem dput_out (h : k ∉ keys xs) : dput xs k x = xs ++ [(k, x)] := dput_new x h
theorem keys_put_in (h : k ∈ keys xs) : keys (dput xs k x) = keys xs := by
  rw [dput_in h]
  unfold keys
  rw [List.map_map]
  apply List.map_congr_left
  intro a _
  show (if a.1 = k then (a.1, x) else a).1 = a.1
  split <;> rfl
theorem keys_put_out (h : k ∉ keys xs) : keys (dput xs k x) = keys xs ++ [k] := by
  rw [dput_out h]
  unfold keys
  rw [List.map_append]
  rfl
theorem nd_snoc {l : List Str} (h : l.Nodup) (hk : k ∉ l) : (l ++ [k]).Nodup := List.nodup_append.mpr ⟨h, List.nodup_cons.mpr ⟨by simp, List.nodup_nil⟩, fun a ha b hb => by rw [List.mem_singleton.mp hb]; intro e; exact hk (e ▸ ha)⟩
theorem nd_put (h : (keys xs).Nodup) : (keys (dput xs k x)).Nodup := by
  by_cases hk : k ∈ keys xs
  · rw [keys_put_in hk]
    exact h
  · rw [keys_put_out hk]
    exact nd_snoc h hk
theorem dget_put : dget (dput xs k x) j = if j = k then some x else dget xs j := by
  by_cases hk : k ∈ keys xs
  · rw [dput_in hk]
    induction xs with
    | nil => exact absurd hk (by simp [keys])
    | cons a r ih =>
      rw [List.map_cons, dget_cons, dget_cons]
      by_cases q : a.1 = k
      · rw [if_pos q]
        by_cases z : j = k
        · rw [if_pos (show (a.1, x).1 = j by rw [z]; exact q), if_pos z]
        · rw [if_neg (show ¬ (a.1, x).1 = j from fun e => z (e.symm.trans q)), if_neg z, if_neg (fun e => z (e.symm.trans q))]
          by_cases hr : k ∈ keys r
          · rw [ih hr, if_neg z]
          · have e : r.map (fun kx => if kx.1 = k then (kx.1, x) else kx) = r := by
              rw [List.map_congr_left (g := id), List.map_id]
              intro b hb
              rw [if_neg]
              · rfl
              · exact fun e => hr (e ▸ mem_keys hb)
            rw [e]
      · rw [if_neg q]
        have hr : k ∈ keys r := by
          rcases List.mem_cons.mp (show k ∈ a.1 :: keys r from hk) with e | e
          · exact absurd e.symm q
          · exact e
        by_cases z : a.1 = j
        · rw [if_pos z, if_pos z, if_neg (fun e => q (z.trans e))]
        · rw [if_neg z, if_neg z, ih hr]
  · rw [dput_out hk, dget_append]
    by_cases z : j = k
    · rw [if_pos z, z, dget_none.mpr hk, dget_cons, if_pos rfl]
      rfl
    · rw [if_neg z, dget_cons, if_neg (fun e => z e.symm)]
      cases dget xs j <;> rfl
theorem keys_drop : keys (ddrop xs k) = (keys xs).filter fun j => decide (j ≠ k) := by
  unfold keys ddrop
  rw [List.filter_map]
  rfl
theorem nd_drop (h : (keys xs).Nodup) : (keys (ddrop xs k)).Nodup := by
  rw [keys_drop]
  exact h.filter _
theorem dget_drop : dget (ddrop xs k) j = if j = k then none else dget xs j := by
  induction xs with
  | nil => split <;> rfl
  | cons a r ih =>
    unfold ddrop
    rw [List.filter_cons]
    by_cases q : a.1 = k
    · rw [if_neg (by simp [q])]
      show dget (ddrop r k) j = _
      rw [ih, dget_cons]
      by_cases z : j = k
      · rw [if_pos z, if_pos z]
      · rw [if_neg z, if_neg z, if_neg (fun e => z (e.symm.trans q))]
    · rw [if_pos (by simp [q]), dget_cons, dget_cons]
      show (if a.1 = j then _ else dget (ddrop r k) j) = _
      rw [ih]
      by_cases z : j = k
      · rw [if_pos z, if_pos z, if_neg (fun e => q (e.trans z))]
      · rw [if_neg z, if_neg z]
theorem drop_len (h : (dget xs k).isSome = true) : (ddrop xs k).length + 1 ≤ xs.length := by
  induction xs with
  | nil => cases h
  | cons a r ih =>
    unfold ddrop
    rw [List.filter_cons]
    by_cases q : a.1 = k
    · rw [if_neg (by simp [q]), List.length_cons]
      exact Nat.succ_le_succ (List.length_filter_le _ _)
    · rw [if_pos (by simp [q]), List.length_cons, List.length_cons]
      rw [dget_cons, if_neg q] at h
      exact Nat.succ_le_succ (ih h)
theorem drop_le : (ddrop xs k).length ≤ xs.length := List.length_filter_le _ _
end
theorem nd_len {xs ys : List Str} (hn : xs.Nodup) (h : ∀ x ∈ xs, x ∈ ys) : xs.length ≤ ys.length := by
  induction xs generalizing ys with
  | nil => exact Nat.zero_le _
  | cons a r ih =>
    obtain ⟨h1, h2⟩ := List.nodup_cons.mp hn
    have ha : a ∈ ys := h a List.mem_cons_self
    have := ih (ys := ys.erase a) h2 fun x hx => by
      have ne : x ≠ a := fun e => h1 (by rw [← e]; exact hx)
      exact (List.mem_erase_of_ne ne).mpr (h x (List.mem_cons_of_mem _ hx))
    rw [List.length_erase_of_mem ha] at this
    have hp : 0 < ys.length := List.length_pos_of_mem ha
    rw [List.length_cons]
    omega

/-! ### reach -/
def cntD (d : List (Str × Str)) (p : Str) : Nat := ((d.map (·.1)).filter fun k => decide (dget d k = some p)).length
def hasRoom (rooms : List (Str × Int)) (d : List (Str × Str)) (q : Str) : Bool := decide ((cntD d q : Int) < (dget rooms q).getD 0)
def wsOf (ws : List (Str × List Str)) (p : Str) : List Str := (dget ws p).getD []
inductive ChP (came : List (Str × Option Str)) (looked : List (Str × Str)) : Str → List Str → Prop
  | start {p : Str} : dget came p = some none → ChP came looked p [p]
  | step {p q p' : Str} {l : List Str} : dget came p = some (some q) → dget looked q = some p' → ChP came looked p' l → ChP came looked p (p :: l)
theorem ChP.mem {came : List (Str × Option Str)} {looked : List (Str × Str)} {p : Str} {l : List Str} (h : ChP came looked p l) : ∀ x ∈ l, x ∈ keys came := by
  induction h with
  | start h =>
    intro x hx
    rw [List.mem_singleton.mp hx]
    exact dget_key h
  | step h1 h2 _ ih =>
    intro x hx
    rcases List.mem_cons.mp hx with e | hx
    · rw [e]
      exact dget_key h1
    · exact ih x hx
theorem ChP.mono {came came2 : List (Str × Option Str)} {looked looked2 : List (Str × Str)} {p : Str} {l : List Str} (h : ChP came looked p l) (h1 : ∀ k x, dget came k = some x → dget came2 k = some x)
    (h2 : ∀ k x, dget looked k = some x → dget looked2 k = some x) : ChP came2 looked2 p l := by
  induction h with
  | start h => exact .start (h1 _ _ h)
  | step a b _ ih => exact .step (h1 _ _ a) (h2 _ _ b) ih
/-- what holds of those come to and the places looked at -/
structure Rch (ws : List (Str × List Str)) (d : List (Str × Str)) (starts : List Str) (came : List (Str × Option Str)) (looked : List (Str × Str)) : Prop where
  nd : (keys came).Nodup
  ndl : (keys looked).Nodup
  st : ∀ s ∈ starts, s ∈ keys came
  cm : ∀ p c, dget came p = some c → c = dget d p ∧ (c = none → p ∈ starts)
  ch : ∀ p ∈ keys came, ∃ l, ChP came looked p l ∧ l.Nodup
  lk : ∀ q p, dget looked q = some p → p ∈ keys came ∧ q ∈ wsOf ws p ∧ dget d p ≠ some q
  fr : ∀ p q, dget came p = some (some q) → q ∈ keys looked
section
variable {ws : List (Str × List Str)} {d : List (Str × Str)} {starts : List Str} {came : List (Str × Option Str)} {looked : List (Str × Str)}
theorem put_mono {α : Type} {xs : List (Str × α)} {k : Str} {x : α} (h : k ∉ keys xs) : ∀ j y, dget xs j = some y → dget (dput xs k x) j = some y := fun j y e => by
  rw [dget_put, if_neg]
  · exact e
  · exact fun z => h (z ▸ dget_key e)
theorem Rch.look (r : Rch ws d starts came looked) {p q : Str} (hp : p ∈ keys came) (hq : q ∉ keys looked) (hw : q ∈ wsOf ws p) (hd : dget d p ≠ some q) : Rch ws d starts came (dput looked q p) where
  nd := r.nd
  ndl := nd_put r.ndl
  st := r.st
  cm := r.cm
  ch := fun x hx => let ⟨l, c, n⟩ := r.ch x hx; ⟨l, c.mono (fun _ _ h => h) (put_mono hq), n⟩
  lk := fun x y e => by
    rw [dget_put] at e
    by_cases z : x = q
    · rw [if_pos z] at e
      cases e
      rw [z]
      exact ⟨hp, hw, hd⟩
    · rw [if_neg z] at e
      exact r.lk x y e
  fr := fun x y e => by
    rw [keys_put_out hq]
    exact List.mem_append_left _ (r.fr x y e)
theorem Rch.come (r : Rch ws d starts came looked) {p q : Str} (hp : p ∉ keys came) (hq : q ∈ keys looked) (hd : dget d p = some q) : Rch ws d starts (dput came p (some q)) looked := by
  have hm := put_mono (x := some q) hp
  have hk : ∀ x ∈ keys came, x ∈ keys (dput came p (some q)) := fun x hx => by rw [keys_put_out hp]; exact List.mem_append_left _ hx
  refine ⟨nd_put r.nd, r.ndl, fun s hs => hk s (r.st s hs), fun x c e => ?_, fun x hx => ?_, fun x y e => ?_, fun x y e => ?_⟩
  · rw [dget_put] at e
    by_cases z : x = p
    · rw [if_pos z] at e
      cases e
      rw [z]
      exact ⟨hd.symm, fun h => nomatch h⟩
    · rw [if_neg z] at e
      exact r.cm x c e
  · rw [keys_put_out hp] at hx
    rcases List.mem_append.mp hx with hx | hx
    · obtain ⟨l, c, n⟩ := r.ch x hx
      exact ⟨l, c.mono hm (fun _ _ h => h), n⟩
    · rw [List.mem_singleton.mp hx]
      obtain ⟨p', hp'⟩ := Option.isSome_iff_exists.mp (dget_isSome.mpr hq)
      obtain ⟨l, c, n⟩ := r.ch p' (r.lk q p' hp').1
      exact ⟨p :: l, .step (by rw [dget_put, if_pos rfl]) hp' (c.mono hm (fun _ _ h => h)), List.nodup_cons.mpr ⟨fun z => hp (c.mem p z), n⟩⟩
  · exact ⟨hk y (r.lk x y e).1, (r.lk x y e).2⟩
  · rw [dget_put] at e
    by_cases z : x = p
    · rw [if_pos z] at e
      cases e
      exact hq
    · rw [if_neg z] at e
      exact r.fr x y e
theorem Rch.init (hn : starts.Nodup) (hs : ∀ s ∈ starts, dget d s = none) : Rch ws d starts (starts.map fun s => (s, none)) [] := by
  have ek : keys (starts.map fun s => ((s, none) : Str × Option Str)) = starts := by
    unfold keys
    rw [List.map_map]
    exact List.map_id _
  have eg : ∀ p c, dget (starts.map fun s => ((s, none) : Str × Option Str)) p = some c → c = none ∧ p ∈ starts := fun p c e => by
    obtain ⟨s, hs, e2⟩ := List.mem_map.mp (dget_mem e)
    have e3 : s = p := congrArg Prod.fst e2
    have e4 : none = c := congrArg Prod.snd e2
    exact ⟨e4.symm, e3 ▸ hs⟩
  refine ⟨by rw [ek]; exact hn, List.nodup_nil, fun s h => by rw [ek]; exact h, fun p c e => ?_, fun p hp => ?_, fun q p e => (nomatch (show none = some p from e)), fun p q e => ?_⟩
  · obtain ⟨h1, h2⟩ := eg p c e
    exact ⟨by rw [h1, hs p h2], fun _ => h2⟩
  · obtain ⟨c, hc⟩ := Option.isSome_iff_exists.mp (dget_isSome.mpr hp)
    obtain ⟨h1, h2⟩ := eg p c hc
    exact ⟨[p], .start (by rw [hc, h1]), by simp⟩
  · exact nomatch (eg p _ e).1
/-- nobody can be moved on -/
structure Clo (ws : List (Str × List Str)) (rooms : List (Str × Int)) (d : List (Str × Str)) (starts : List Str) (S T : List Str) : Prop where
  nd : S.Nodup
  st : ∀ s ∈ starts, s ∈ S
  inn : ∀ p ∈ S, p ∈ starts ∨ ∃ q, dget d p = some q
  go : ∀ p ∈ S, ∀ q ∈ wsOf ws p, q ∈ T
  at_ : ∀ p ∈ S, ∀ q, dget d p = some q → q ∈ T
  full : ∀ q ∈ T, hasRoom rooms d q = false
  all : ∀ q ∈ T, ∀ p, dget d p = some q → p ∈ S
  wh : ∀ q ∈ T, ∃ p ∈ S, q ∈ wsOf ws p
theorem Rch.clo {rooms : List (Str × Int)} (r : Rch ws d starts came looked) (h1 : ∀ p ∈ keys came, ∀ q ∈ wsOf ws p, dget d p = some q ∨ q ∈ keys looked)
    (h2 : ∀ q ∈ keys looked, hasRoom rooms d q = false ∧ ∀ o, dget d o = some q → o ∈ keys came) : Clo ws rooms d starts (keys came) (keys looked) := by
  have hat : ∀ p ∈ keys came, ∀ q, dget d p = some q → q ∈ keys looked := fun p hp q hq => by
    obtain ⟨c, hc⟩ := Option.isSome_iff_exists.mp (dget_isSome.mpr hp)
    have e := (r.cm p c hc).1
    rw [hq] at e
    exact r.fr p q (by rw [hc, e])
  refine ⟨r.nd, r.st, fun p hp => ?_, fun p hp q hq => ?_, hat, fun q hq => (h2 q hq).1, fun q hq => (h2 q hq).2, fun q hq => ?_⟩
  · obtain ⟨c, hc⟩ := Option.isSome_iff_exists.mp (dget_isSome.mpr hp)
    obtain ⟨e, h⟩ := r.cm p c hc
    cases c with
    | none => exact .inl (h rfl)
    | some q => exact .inr ⟨q, e.symm⟩
  · rcases h1 p hp q hq with h | h
    · exact hat p hp q h
    · exact h
  · obtain ⟨p, hp⟩ := Option.isSome_iff_exists.mp (dget_isSome.mpr hq)
    exact ⟨p, (r.lk q p hp).1, (r.lk q p hp).2.1⟩
/-- somebody can: q is looked at and has room -/
structure Way (ws : List (Str × List Str)) (rooms : List (Str × Int)) (d : List (Str × Str)) (starts : List Str) (came : List (Str × Option Str)) (looked : List (Str × Str)) (q : Str) : Prop where
  r : Rch ws d starts came looked
  lk : q ∈ keys looked
  room : hasRoom rooms d q = true

/-! ### led -/
def ledF (d : List (Str × Str)) (q : Str) : List Str → List (Str × Str)
  | [] => d
  | p :: l => match dget d p with
    | none => dput (ddrop d p) p q
    | some q' => ledF (dput (ddrop d p) p q) q' l
def occ (P : List Str) (f : Str → Option Str) (q : Str) : Nat := P.countP fun p => decide (f p = some q)
theorem occ_congr {P : List Str} {f g : Str → Option Str} {q : Str} (h : ∀ p ∈ P, f p = g p) : occ P f q = occ P g q := List.countP_congr fun p hp => by rw [h p hp]
theorem occ_upd {P : List Str} (hn : P.Nodup) {f g : Str → Option Str} {p : Str} (hp : p ∈ P) (h : ∀ x, x ≠ p → g x = f x) (q : Str) :
    occ P g q + (if f p = some q then 1 else 0) = occ P f q + (if g p = some q then 1 else 0) := by
  induction P with
  | nil => exact absurd hp (by simp)
  | cons a r ih =>
    obtain ⟨h1, h2⟩ := List.nodup_cons.mp hn
    unfold occ at ih ⊢
    rw [List.countP_cons, List.countP_cons]
    by_cases e : a = p
    · subst e
      have e2 : (r.countP fun p => decide (g p = some q)) = r.countP fun p => decide (f p = some q) := occ_congr (P := r) fun x hx => h x fun z => h1 (z ▸ hx)
      rw [e2]
      simp only [decide_eq_true_eq]
      omega
    · have hp2 : p ∈ r := by
        rcases List.mem_cons.mp hp with z | z
        · exact absurd z.symm e
        · exact z
      have := ih h2 hp2
      rw [h a e]
      omega
/-- the dealing that is led: one more person, one more at the end -/
structure Led (ws : List (Str × List Str)) (P : List Str) (d : List (Str × Str)) (q s : Str) (d' : List (Str × Str)) : Prop where
  nd : (keys d).Nodup → (keys d').Nodup
  no : dget d s = none
  dom : ∀ x, (dget d' x).isSome = ((dget d x).isSome || decide (x = s))
  wh : ∀ x y, dget d' x = some y → dget d x = some y ∨ y ∈ wsOf ws x
  oc : ∀ y, occ P (dget d') y = occ P (dget d) y + (if y = q then 1 else 0)
  len : d'.length ≤ d.length + 1
theorem ledF_ok {P : List Str} (hP : P.Nodup) {p : Str} {l : List Str} (h : ChP came looked p l) : ∀ {d0 : List (Str × Str)} {q : Str}, l.Nodup → (∀ x ∈ l, dget came x = some (dget d0 x)) → (∀ x ∈ l, x ∈ P) → q ∈ wsOf ws p → (∀ q p, dget looked q = some p → q ∈ wsOf ws p) →
    ∃ s, dget came s = some none ∧ Led ws P d0 q s (ledF d0 q l) := by
  induction h with
  | @start p hc =>
    intro d0 q hn hd hlP hw hlk
    have e0 : dget d0 p = none := by
      have := hd p (by simp)
      rw [hc] at this
      exact (Option.some.inj this).symm
    have ef : ledF d0 q [p] = dput (ddrop d0 p) p q := by
      unfold ledF
      rw [e0]
    have eg : ∀ x, dget (ledF d0 q [p]) x = if x = p then some q else dget d0 x := fun x => by
      rw [ef, dget_put, dget_drop]
      by_cases z : x = p
      · rw [if_pos z, if_pos z]
      · rw [if_neg z, if_neg z, if_neg z]
    refine ⟨p, hc, fun hk => ?_, e0, fun x => ?_, fun x y => ?_, fun y => ?_, ?_⟩
    · rw [ef]
      exact nd_put (nd_drop hk)
    · rw [eg]
      by_cases z : x = p
      · rw [if_pos z, decide_eq_true z, Bool.or_true]
        rfl
      · rw [if_neg z, decide_eq_false z, Bool.or_false]
    · rw [eg]
      by_cases z : x = p
      · rw [if_pos z]
        intro e
        cases e
        rw [z]
        exact .inr hw
      · rw [if_neg z]
        exact .inl
    · have u := occ_upd hP (f := dget d0) (g := dget (ledF d0 q [p])) (p := p) (hlP p (by simp)) (fun x hx => by rw [eg, if_neg hx]) y
      rw [e0, if_neg (by simp), eg, if_pos rfl] at u
      rw [Nat.add_zero] at u
      rw [u]
      by_cases z : y = q
      · rw [if_pos z, if_pos (by rw [z])]
      · rw [if_neg z, if_neg (fun e => z (Option.some.inj e).symm)]
    · rw [ef]
      exact Nat.le_trans (dput_len _ _ _) (Nat.succ_le_succ drop_le)
  | @step p q1 p' l hc hl _ ih =>
    intro d0 q hn hd hlP hw hlk
    have e0 : dget d0 p = some q1 := by
      have := hd p (by simp)
      rw [hc] at this
      exact (Option.some.inj this).symm
    have ef : ledF d0 q (p :: l) = ledF (dput (ddrop d0 p) p q) q1 l := by
      rw [ledF, e0]
    obtain ⟨hpl, hnl⟩ := List.nodup_cons.mp hn
    have eg : ∀ x, dget (dput (ddrop d0 p) p q) x = if x = p then some q else dget d0 x := fun x => by
      rw [dget_put, dget_drop]
      by_cases z : x = p
      · rw [if_pos z, if_pos z]
      · rw [if_neg z, if_neg z, if_neg z]
    obtain ⟨s, hs, L⟩ := ih (d0 := dput (ddrop d0 p) p q) (q := q1) hnl (fun x hx => by
      have ne : x ≠ p := fun z => hpl (by rw [← z]; exact hx)
      rw [eg, if_neg ne]
      exact hd x (List.mem_cons_of_mem _ hx)) (fun x hx => hlP x (List.mem_cons_of_mem _ hx)) (hlk _ _ hl) hlk
    rw [ef]
    have hsp : s ≠ p := fun z => by
      rw [z, hc] at hs
      cases hs
    refine ⟨s, hs, fun hk => L.nd (nd_put (nd_drop hk)), ?_, fun x => ?_, fun x y e => ?_, fun y => ?_, ?_⟩
    · have := L.no
      rw [eg, if_neg hsp] at this
      exact this
    · rw [L.dom x, eg]
      by_cases z : x = p
      · rw [if_pos z, z, e0]
        rfl
      · rw [if_neg z]
    · rcases L.wh x y e with h | h
      · rw [eg] at h
        by_cases z : x = p
        · rw [if_pos z] at h
          cases h
          rw [z]
          exact .inr hw
        · rw [if_neg z] at h
          exact .inl h
      · exact .inr h
    · rw [L.oc y]
      have u := occ_upd hP (f := dget d0) (g := dget (dput (ddrop d0 p) p q)) (p := p) (hlP p (by simp)) (fun x hx => by rw [eg, if_neg hx]) y
      rw [e0, eg, if_pos rfl] at u
      simp only [Option.some.injEq] at u
      have e1 : (if q1 = y then 1 else 0) = if y = q1 then 1 else 0 := by
        by_cases z : y = q1
        · rw [if_pos z, if_pos z.symm]
        · rw [if_neg z, if_neg (fun e => z e.symm)]
      have e2 : (if q = y then 1 else 0) = if y = q then 1 else 0 := by
        by_cases z : y = q
        · rw [if_pos z, if_pos z.symm]
        · rw [if_neg z, if_neg (fun e => z e.symm)]
      rw [e1, e2] at u
      exact u
    · have h1 : (dput (ddrop d0 p) p q).length ≤ d0.length := Nat.le_trans (dput_len _ _ _) (drop_len (by rw [e0]; rfl))
      exact Nat.le_trans L.len (Nat.succ_le_succ h1)
end
end G3
set_option maxRecDepth 100000
set_option maxHeartbeats 4000000
/-! G12: while; targets of three and four; more stores. -/
namespace G3
open PySem PySem.Spec PyProof.Rows L2
@[reducible] def tg3 {α β γ : Type} (K : PySem.W.Frag) (t : Ty α) (u : Ty β) (w : Ty γ) (i j k : Nat) : Tgt (gTup K 3 (gCons (gName i) (gCons (gName j) (gCons (gName k) gNil)))) (tTrip K t u w) (V × V × V) :=
  ⟨fun ω x => t.ok ω.1 x.1 ∧ u.ok ω.2.1 x.2.1 ∧ w.ok ω.2.2 x.2.2, fun M ω x => ((M.is t ω.1 x.1).is u ω.2.1 x.2.1).is w ω.2.2 x.2.2, fun ω σ => ((σ.set i (some ω.1)).set j (some ω.2.1)).set k (some ω.2.2),
    fun {M G H v x σ Q} m l r kk => by
      obtain ⟨a, v1, v2, v3, e, h, g1, g2, g3⟩ := r
      exact ⟨a, [v1, v2, v3], e, l.sqT h, rfl, v1, [v2, v3], rfl, v2, [v3], rfl, v3, [], rfl, rfl, kk (v1, v2, v3) ⟨t.of g1, u.of g2, w.of g3⟩ ⟨⟨⟨m, g1⟩, g2⟩, g3⟩⟩, fun m => m.1.1.1⟩
@[reducible] def tg4 {α β γ δ : Type} (K : PySem.W.Frag) (t : Ty α) (u : Ty β) (w : Ty γ) (z : Ty δ) (i j k n : Nat) : Tgt (gTup K 4 (gCons (gName i) (gCons (gName j) (gCons (gName k) (gCons (gName n) gNil))))) (tQuad K t u w z) (V × V × V × V) :=
  ⟨fun ω x => t.ok ω.1 x.1 ∧ u.ok ω.2.1 x.2.1 ∧ w.ok ω.2.2.1 x.2.2.1 ∧ z.ok ω.2.2.2 x.2.2.2, fun M ω x => (((M.is t ω.1 x.1).is u ω.2.1 x.2.1).is w ω.2.2.1 x.2.2.1).is z ω.2.2.2 x.2.2.2, fun ω σ => (((σ.set i (some ω.1)).set j (some ω.2.1)).set k (some ω.2.2.1)).set n (some ω.2.2.2),
    fun {M G H v x σ Q} m l r kk => by
      obtain ⟨a, v1, v2, v3, v4, e, h, g1, g2, g3, g4⟩ := r
      exact ⟨a, [v1, v2, v3, v4], e, l.sqT h, rfl, v1, [v2, v3, v4], rfl, v2, [v3, v4], rfl, v3, [v4], rfl, v4, [], rfl, rfl, kk (v1, v2, v3, v4) ⟨t.of g1, u.of g2, w.of g3, z.of g4⟩ ⟨⟨⟨⟨m, g1⟩, g2⟩, g3⟩, g4⟩⟩, fun m => m.1.1.1.1⟩
section
variable {B : Bs} {M : Asr} {O : List (Addr × HO)} {σ : L2.St} {K : PySem.W.Frag} {α β Ω γ : Type} {t : Ty α} {u : Ty β} {te tl : TE} {g : TG} {tb tz : TS} {D : Ends} {x : α} {tt : TT}
/-- a target of several names -/
theorem st_asgGR {R : α → Prop} (tg : Tgt g t Ω) (h : EvR M O σ t te R) (k : ∀ ω x, R x → tg.ok ω x → St B (tg.F M ω x) O tz D (tg.put ω σ)) : St B M O (tSeq (tAsg te g) tz) D σ := fun G H m e w =>
  h G H m (w.wl e) _ fun v x G1 H1 e1 hR r => tg.run (M.mono (e1.le (B.le e)) m) e1.gh r fun ω ok f => k ω x hR ok G1 H1 f (B.ext e e1) (w.ext e1)
theorem st_asgG (tg : Tgt g t Ω) (h : Ev M O σ t te x) (k : ∀ ω, tg.ok ω x → St B (tg.F M ω x) O tz D (tg.put ω σ)) : St B M O (tSeq (tAsg te g) tz) D σ :=
  st_asgGR tg h.rel fun ω y e ok => by
    subst e
    exact k ω ok
/-- while -/
theorem st_while (J : γ → Prop) (μ : γ → Nat) (Xg : γ → Asr) (Og : γ → List (Addr × HO)) (sg : γ → L2.St) (g0 : γ) (j0 : J g0) (x0 : ∀ G, M.p G → (Xg g0).p G)
    (hs : ∀ c, J c → ∃ b, EvT (M.and (Xg c)) (Og c) (sg c) tt b ∧ (b = true → St B (M.and (Xg c)) (Og c) tb { D with nx := Lp B M (fun c' => J c' ∧ μ c' < μ c) Xg Og sg, ct := Lp B M (fun c' => J c' ∧ μ c' < μ c) Xg Og sg, bk := tz D } (sg c)) ∧ (b = false → St B (M.and (Xg c)) (Og c) tz D (sg c)))
    (s0 : σ = sg g0 := by rfl) (o0 : O = Og g0 := by rfl) : St B M O (tSeq (tWhile tt tb) tz) D σ := fun G H m e w => by
  subst s0 o0
  refine ⟨fun n σ H => ∃ c, J c ∧ μ c = n ∧ σ = sg c ∧ At B (M.and (Xg c)) (Og c) H, ⟨μ g0, g0, j0, rfl, rfl, G, ⟨m, x0 G m⟩, e, w⟩, ?_⟩
  rintro n σ H ⟨c, jc, rfl, rfl, G, m, e, o⟩
  obtain ⟨b, hb, h1, h2⟩ := hs c jc
  refine hb G H m (o.wl e) _ fun G1 H1 e1 => ?_
  have m1 := (M.and (Xg c)).mono (e1.le (B.le e)) m
  cases b with
  | true =>
    rw [if_pos rfl]
    refine ⟨_, ?_, h1 rfl G1 H1 m1 (B.ext e e1) (o.ext e1)⟩
    rintro σ' H' ⟨c', ⟨jc', lt⟩, es, a⟩
    exact ⟨μ c', lt, c', jc', rfl, es, a⟩
  | false =>
    rw [if_neg Bool.false_ne_true]
    exact h2 rfl G1 H1 m1 (B.ext e e1) (o.ext e1)
theorem ev_assoc {y : α} (h : Ev M O σ t te x) (e : x = y) : Ev M O σ t te y := e ▸ h
/-- an optional thing that is there, or not -/
theorem ev_optS {f : α → V} (h : Ev M O σ (aty f) te x) : Ev M O σ (tOpt f) te (some x) := fun G H m l Q q => h G H m l Q fun v G' H' e r => q v G' H' e r
theorem ev_optN {f : α → V} : Ev M O σ (tOpt f) (tC .non) none := ev_c fun _ => rfl
end
/-! ### d.pop(None, x) -/
section
variable {X : Cx} {pins : List (Addr × Obj)} {σ : L2.St} {H : Hp} {s : Shared} {a : Addr} {kvs : List (Key × V)} {A : Around} {E : Value → Shared → Prop}
theorem none_pairs {P : Program} {w : World} : ∀ {es : List DictEntry} {vs : List (Key × Value)}, Pairs (mixKind P w) es vs → Pairs (noneKind P w) es (vs.map fun kv => ((some kv.1 : Option Key), kv.2))
  | _, _, .nil => .nil
  | _, _, .cons h1 h2 r => .cons h1 h2 (none_pairs r)
theorem none_dict {P : Program} {w : World} {h : Heap} {a : Addr} {vs : List (Key × Value)} (d : h.DictOf (mixKind P w) a vs) : h.DictOf (noneKind P w) a (vs.map fun kv => ((some kv.1 : Option Key), kv.2)) := by
  obtain ⟨o, es, ep, ho, hx, hdt, hk, hp, hn⟩ := d
  refine ⟨o, es, ep, ho, hx, hdt, fun e he => ?_, none_pairs hp, ?_⟩
  · obtain ⟨k, h1, h2⟩ := hk e he
    exact ⟨some k, h1, h2⟩
  · rw [List.map_map]
    have e : (vs.map ((fun kv : Option Key × Value => kv.1) ∘ fun kv : Key × Value => ((some kv.1 : Option Key), kv.2))) = (vs.map (·.1)).map some := by rw [List.map_map]; rfl
    rw [e]
    exact List.pairwise_map.mpr (hn.imp fun h z => h (Option.some.inj z))
theorem none_at (vs : List (Key × Value)) : valueAt (vs.map fun kv => ((some kv.1 : Option Key), kv.2)) none = none := by
  unfold valueAt
  rw [Option.map_eq_none_iff, List.find?_eq_none]
  intro x hx
  obtain ⟨kv, _, e⟩ := List.mem_map.mp hx
  rw [← e]
  simp
theorem d_popN {r : Value} {Q : Value → Shared → Prop} (I : Inv X pins σ H s) (e : H a = some (.dK kvs)) (h : ∀ s', Inv X pins σ H s' → Q r s') :
    wpAny (model X.prog X.w) A (call (.builtin "dict.pop") [.ref a, .none, r]) Q E s := by
  obtain ⟨z, hd, vs, rel, dd⟩ := dk_of I.hok e
  exact call_meetsIn PySem.F.slot_dict_pop dd.typeIs PySem.F.entry_dict_pop (PySem.F.args_dict_pop_3 _ _ _) (meets_dict_pop_default (noneKind X.prog X.w) a (show (noneKind X.prog X.w).is none .none = true from rfl) hd rfl r) ⟨_, none_dict dd, none_at vs, h _ (I.tok _)⟩
end
/-- d.pop(y, x), y may be None -/
def tDPopN (td ty tx : TE) : TE := fun σ H Q => td σ H fun x H1 => ∃ a, x = .ref a ∧ IsD H1 a ∧ ty σ H1 fun y H2 => tx σ H2 fun z H3 => (∃ kvs k, H3 a = some (.dK kvs) ∧ y = kV k ∧
  (∀ v, valV kvs k = some v → Q v (upd H3 a (.dK (dropK kvs k)))) ∧ (valV kvs k = none → Q z H3)) ∨ ∃ kvs, H3 a = some (.dK kvs) ∧ y = .non ∧ Q z H3
section
variable {X : Cx} {o e f : Expr} {apos cpos : Pos} {td ty tx : TE}
theorem pe_dpopN (ho : PE X o td) (he : PE X e ty) (hf : PE X f tx) (m : M2 X o "pop" apos e f cpos) : PE X (.Call (.Attribute o "pop" apos) [e, f] [] cpos) (tDPopN td ty tx) := by
  refine ⟨fun pins s σ H Q I h => ?_⟩
  refine wpAny_Call_method m.base m.few m.line PySem.F.plainAttrs_dict PySem.F.slot_dict_pop PySem.F.type_dict_pop (thn (ho.run pins s σ H _ I h) fun u s1 ⟨x, H1, I1, rx, a, ex, d, q1⟩ => ?_)
  subst ex
  obtain rfl : u = Value.ref a := rx
  obtain ⟨t1, t2, _⟩ := isD_at I1 d
  refine ⟨t1, t2, ?_⟩
  rw [m.trees]
  refine Calls.callWith_builtin rfl (Calls.evalArgs_plain (Calls.spliced_cons (thn (he.run pins s1 σ H1 _ I1 q1) fun iv s2 ⟨y, H2, I2, ry, q2⟩ =>
    Calls.spliced_cons (thn (hf.run pins s2 σ H2 _ I2 q2) fun fv s3 ⟨z, H3, I3, rz, qq⟩ => Calls.spliced_nil ?_))))
  rcases qq with ⟨kvs, k, ea, ey, q3, q4⟩ | ⟨kvs, ea, ey, q3⟩
  · subst ey
    cases l : valV kvs k with
    | some v => exact d_pop I3 ea ry l (.inr ⟨fv, rfl⟩) fun w' s4 I4 rw' => ⟨v, _, I4, rw', q3 v l⟩
    | none => exact d_popD I3 ea ry l fun s4 I4 => ⟨z, H3, I4, rz, q4 l⟩
  · subst ey
    obtain rfl : iv = Value.none := ry
    exact d_popN I3 ea fun s4 I4 => ⟨z, H3, I4, rz, q3⟩
end
section
variable {B : Bs} {M : Asr} {O : List (Addr × HO)} {σ : L2.St} {K : PySem.W.Frag} {α β : Type} {t : Ty α} {u : Ty β} {te ty : TE} {tz : TS} {D : Ends} {i j : Nat} {p : Addr} {kvs : List (Key × V)} {xs : List (Str × α)}
theorem set_same {O : List (Addr × HO)} {j : Nat} {po : Addr × HO} (hO : O[j]? = some po) : O.set j po = O := by
  apply List.ext_getElem?
  intro n
  rw [List.getElem?_set]
  split
  · rename_i q
    subst q
    rw [hO, if_pos (List.getElem?_eq_some_iff.mp hO).1]
  · rfl
def ddropO (xs : List (Str × α)) : Option Str → List (Str × α)
  | none => xs
  | some k => ddrop xs k
theorem st_dpopN {k : Option Str} {f : α → V} (hO : O[j]? = some (p, .dK (akv f xs))) (hk : Ev M O σ (tOpt V.str) ty k) (c : St B M (O.set j (p, .dK (akv f (ddropO xs k)))) tz D σ) (hs : σ[i]? = some (some (.ref p)) := by rfl) : St B M O (tSeq (tDrop (tDPopN (tVar i) ty (tC .non))) tz) D σ := fun G H m e w =>
  ⟨_, hs, p, rfl, .inl ⟨_, .inl (w.at_ hO).2.2⟩, hk G H m (w.wl e) _ fun v G1 H1 e1 r1 => by
    have eB := B.ext e e1
    have w1 := w.ext e1
    obtain ⟨o1, o2, o3⟩ := w1.at_ hO
    have r2 : v = oV V.str k := r1
    subst r2
    cases k with
    | none =>
      refine .inr ⟨_, o3, rfl, ?_⟩
      have c2 : St B M (O.set j (p, .dK (akv f xs))) tz D σ := c
      rw [set_same hO] at c2
      exact c2 G1 H1 (M.mono (e1.le (B.le e)) m) eB w1
    | some k =>
      refine .inl ⟨_, .inr k, o3, rfl, fun _ _ => ?_, fun hn => ?_⟩
      · have ed := akv_drop f xs k
        rw [ed]
        exact c G1 _ (M.mono (e1.le (B.le e)) m) (B.set o1 eB o2) (w1.set hO)
      · have ed : akv f (ddrop xs k) = akv f xs := by
          rw [← akv_drop]
          unfold dropK
          rw [List.filter_eq_self]
          intro a ha
          have q := valV_not hn
          exact decide_eq_true fun z => q (List.mem_map.mpr ⟨a, ha, z⟩)
        have c2 : St B M (O.set j (p, .dK (akv f (ddrop xs k)))) tz D σ := c
        rw [ed, set_same hO] at c2
        exact c2 G1 H1 (M.mono (e1.le (B.le e)) m) eB w1⟩
/-- d.pop(k, None), of atoms -/
theorem st_dpopA {k : Str} {f : α → V} (hO : O[j]? = some (p, .dK (akv f xs))) (hk : Ev M O σ tStr ty k) (c : St B M (O.set j (p, .dK (akv f (ddrop xs k)))) tz D σ) (hs : σ[i]? = some (some (.ref p)) := by rfl) : St B M O (tSeq (tDrop (tDPop2 (tVar i) ty (tC .non))) tz) D σ :=
  st_dpop hO hk (by rw [akv_drop]; exact c) hs
/-- d.pop(k) -/
theorem st_dpop1 {k : Str} {f : α → V} (hO : O[j]? = some (p, .dK (akv f xs))) (hk : Ev M O σ tStr ty k) (hx : (dget xs k).isSome = true) (c : St B M (O.set j (p, .dK (akv f (ddrop xs k)))) tz D σ) (hs : σ[i]? = some (some (.ref p)) := by rfl) : St B M O (tSeq (tDrop (tDPop1 (tVar i) ty)) tz) D σ := fun G H m e w =>
  ⟨_, hs, p, rfl, .inl ⟨_, .inl (w.at_ hO).2.2⟩, hk G H m (w.wl e) _ fun v G1 H1 e1 r1 => by
    have eB := B.ext e e1
    have w1 := w.ext e1
    obtain ⟨o1, o2, o3⟩ := w1.at_ hO
    cases r1
    obtain ⟨x, hx⟩ := Option.isSome_iff_exists.mp hx
    obtain ⟨v0, hv0, _⟩ := ((Fa.akv (f := f) (G := fun _ => none) xs).kget k).1 x hx
    refine ⟨_, .inr k, v0, o3, rfl, hv0, ?_⟩
    rw [akv_drop]
    exact c G1 _ (M.mono (e1.le (B.le e)) m) (B.set o1 eB o2) (w1.set hO)⟩
/-- d[k] -= n -/
theorem st_daugI {k : Str} {n z : Int} {ds : List (Str × Int)} {rd : V → V → Hp → VK → Prop} (hO : O[j]? = some (p, .dK (akv V.int ds))) (hk : Ev M O σ tStr ty k) (hx : dget ds k = some n) (hl : ds.length < sizeLine) (hv : Ev M O σ tInt te z)
    (hrd : ∀ H Q, Q (V.int (n - z)) H → rd (.int n) (.int z) H Q) (c : St B M (O.set j (p, .dK (akv V.int (dput ds k (n - z))))) tz D σ) (hs : σ[i]? = some (some (.ref p)) := by rfl) : St B M O (tSeq (sDAug (tVar i) ty te rd) tz) D σ := fun G H m e w =>
  ⟨_, hs, hk G H m (w.wl e) _ fun v G1 H1 e1 r1 => by
    have eB := B.ext e e1
    have w1 := w.ext e1
    obtain ⟨o1, o2, o3⟩ := w1.at_ hO
    cases r1
    obtain ⟨v0, hv0, rv⟩ := ((Fa.akv (f := V.int) (G := fun _ => none) ds).kget k).1 n hx
    have rv2 : v0 = V.int n := rv
    subst rv2
    refine ⟨p, _, rfl, .inl ⟨_, .inr k, .inl o3, rfl, hv0.symm⟩, hv G1 H1 (M.mono (e1.le (B.le e)) m) (w1.wl eB) _ fun v2 G2 H2 e2 r2 => ?_⟩
    have eB2 := B.ext eB e2
    have w2 := w1.ext e2
    obtain ⟨p1, p2, p3⟩ := w2.at_ hO
    cases r2
    refine hrd _ _ ⟨_, .inl ⟨_, .inr k, p3, rfl, by rw [akv_len]; exact hl, rfl⟩, ?_⟩
    rw [akv_put]
    exact c G2 _ (M.mono ((e1.trans e2).le (B.le e)) m) (B.set p1 eB2 p2) (w2.set hO)⟩
end
end G3
set_option maxRecDepth 100000
set_option maxHeartbeats 4000000
/-! F4: has_room, reach, led. -/
namespace G3
open PySem PySem.Spec PyProof.Rows L2
section
variable {B : Bs} {M : Asr} {O : List (Addr × HO)} {σ : L2.St} {te : TE} {tz : TS} {D : Ends}
theorem st_augI {i : Nat} {a b : Int} {f : Int → Int → Int} (h : Ev M O σ tInt te b) (k : St B M O tz D (σ.set i (some (.int (f a b))))) (hs : σ[i]? = some (some (.int a)) := by rfl) : St B M O (tSeq (tAug i te (ipI f)) tz) D σ := fun G H m e w =>
  ⟨_, hs, h G H m (w.wl e) _ fun v G1 H1 e1 r1 => ⟨a, b, rfl, r1, k G1 H1 (M.mono (e1.le (B.le e)) m) (B.ext e e1) (w.ext e1)⟩⟩
end
theorem ovs (o : Option Str) (q : Str) : decide (oV V.str o = V.str q) = decide (o = some q) := decide_eq_decide.mpr <| by
  cases o with
  | none => exact ⟨fun h => (nomatch h), fun h => (nomatch h)⟩
  | some p => exact ⟨fun h => by rw [show p = q by injection h], fun h => by rw [Option.some.inj h]; rfl⟩
theorem ovs_scal (o : Option Str) (q : Str) : scal (oV V.str o) (V.str q) = true := by cases o <;> rfl
theorem sz40 {n : Nat} (h : n ≤ 40) : n < sizeLine := Nat.lt_of_le_of_lt h (by decide)
theorem mem_dget {α : Type} {d : List (Str × α)} {k : Str} {x : α} (h : (k, x) ∈ d) : ∃ y, dget d k = some y := Option.isSome_iff_exists.mp (dget_isSome.mpr (mem_keys h))
structure PreR (ws : List (Str × List Str)) (rooms : List (Str × Int)) (d : List (Str × Str)) (starts : List Str) : Prop where
  nd : starts.Nodup
  no : ∀ s ∈ starts, dget d s = none
  l1 : starts.length ≤ 20
  l2 : d.length ≤ 20
  l3 : rooms.length ≤ 20
  ws1 : ∀ p ∈ starts, (dget ws p).isSome = true
  ws2 : ∀ p ∈ keys d, (dget ws p).isSome = true
  rm : ∀ p, ∀ q ∈ wsOf ws p, (dget rooms q).isSome = true
def RReach (ws : List (Str × List Str)) (rooms : List (Str × Int)) (d : List (Str × Str)) (starts : List Str) (y : List (Str × Option Str) × List (Str × Str) × Option Str × Bool) : Prop :=
  (y.2.2.2 = true ∧ ∃ q, y.2.2.1 = some q ∧ Way ws rooms d starts y.1 y.2.1 q) ∨ (y.2.2.2 = false ∧ y.2.2.1 = none ∧ Clo ws rooms d starts (keys y.1) (keys y.2.1))
def RLed (d : List (Str × Str)) (came : List (Str × Option Str)) (looked : List (Str × Str)) (e : Option Str) (y : List (Str × Str)) : Prop :=
  ∃ q p l, e = some q ∧ dget looked q = some p ∧ ChP came looked p l ∧ l.Nodup ∧ (∀ x ∈ l, dget came x = some (dget d x)) ∧ y = ledF d q l
def PreL (d : List (Str × Str)) (came : List (Str × Option Str)) (looked : List (Str × Str)) (e : Option Str) : Prop :=
  d.length ≤ 100 ∧ ∃ q p l, e = some q ∧ dget looked q = some p ∧ ChP came looked p l ∧ l.Nodup ∧ (∀ x ∈ l, dget came x = some (dget d x))
section
variable (P : Program) (w : World) (K : PySem.W.Frag) (mg : Str → Option Value) (base : Heap) (C : Addr)
abbrev P_has_room : Prop := C8.Cal P w K mg base 1 "has_room" (SpF (aCons (tDct tInt) (aCons (tDct tStr) (aCons tStr aNil))) (fun i => (dget i.1 i.2.2.1).isSome = true) tBool fun i => hasRoom i.1 i.2.1 i.2.2.1) []
abbrev P_reach : Prop := C8.Cal P w K mg base 2 "reach" (SpR (aCons (tDct (tLst K tStr)) (aCons (tDct tInt) (aCons (tDct tStr) (aCons (tLst K tStr) aNil)))) (fun i => PreR i.1 i.2.1 i.2.2.1 i.2.2.2.1) (tQuad K (tDct (tOpt V.str)) (tDct tStr) (tOpt V.str) tBool) fun i y => RReach i.1 i.2.1 i.2.2.1 i.2.2.2.1 y) []
abbrev P_led : Prop := C8.Cal P w K mg base 1 "led" (SpR (aCons (tDct tStr) (aCons (tDct (tOpt V.str)) (aCons (tDct tStr) (aCons (tOpt V.str) aNil)))) (fun i => PreL i.1 i.2.1 i.2.2.1 i.2.2.2.1) (tDct tStr) fun i y => RLed i.1 i.2.1 i.2.2.1 i.2.2.2.1 y) []
end
/-! ### reach, within its loops -/
def Done (ws : List (Str × List Str)) (d : List (Str × Str)) (came : List (Str × Option Str)) (looked : List (Str × Str)) (n : Nat) : Prop :=
  ∀ i, i < n → ∀ p, (keys came)[i]? = some p → ∀ q ∈ wsOf ws p, dget d p = some q ∨ q ∈ keys looked
def Fulc (rooms : List (Str × Int)) (d : List (Str × Str)) (came : List (Str × Option Str)) (qs : List Str) : Prop := ∀ q ∈ qs, hasRoom rooms d q = false ∧ ∀ o, dget d o = some q → o ∈ keys came
theorem Done.ext {ws : List (Str × List Str)} {d : List (Str × Str)} {came came2 : List (Str × Option Str)} {looked looked2 : List (Str × Str)} {n : Nat} {t : List Str} (h : Done ws d came looked n) (hn : n ≤ (keys came).length) (e : keys came2 = keys came ++ t) (hl : ∀ q ∈ keys looked, q ∈ keys looked2) : Done ws d came2 looked2 n := fun i hi p hp q hq => by
  rw [e, List.getElem?_append_left (by omega)] at hp
  exact (h i hi p hp q hq).imp id (hl q)
theorem Fulc.ext {rooms : List (Str × Int)} {d : List (Str × Str)} {came came2 : List (Str × Option Str)} {qs t : List Str} (h : Fulc rooms d came qs) (e : keys came2 = keys came ++ t) : Fulc rooms d came2 qs := fun q hq => ⟨(h q hq).1, fun o ho => by
  rw [e]
  exact List.mem_append_left _ ((h q hq).2 o ho)⟩
theorem Rch.room {ws : List (Str × List Str)} {rooms : List (Str × Int)} {d : List (Str × Str)} {starts : List Str} {came : List (Str × Option Str)} {looked : List (Str × Str)} (pre : PreR ws rooms d starts) (r : Rch ws d starts came looked) : came.length ≤ starts.length + d.length ∧ looked.length ≤ rooms.length ∧ ∀ p ∈ keys came, (dget ws p).isSome = true := by
  have hin : ∀ p ∈ keys came, p ∈ starts ∨ p ∈ keys d := fun p hp => by
    obtain ⟨c, hc⟩ := Option.isSome_iff_exists.mp (dget_isSome.mpr hp)
    obtain ⟨e, h⟩ := r.cm p c hc
    cases c with
    | none => exact .inl (h rfl)
    | some q => exact .inr (dget_key e.symm)
  refine ⟨?_, ?_, fun p hp => (hin p hp).elim (pre.ws1 p) (pre.ws2 p)⟩
  · have := nd_len (ys := starts ++ keys d) r.nd fun p hp => List.mem_append.mpr (hin p hp)
    rw [List.length_append] at this
    unfold keys at this
    rw [List.length_map, List.length_map] at this
    exact this
  · have := nd_len (ys := keys rooms) r.ndl fun q hq => by
      obtain ⟨p, hp⟩ := Option.isSome_iff_exists.mp (dget_isSome.mpr hq)
      exact dget_isSome.mp (pre.rm p q (r.lk q p hp).2.1)
    unfold keys at this
    rw [List.length_map, List.length_map] at this
    exact this
/-- what stands between two turns of the outer loop -/
structure RS where
  came : List (Str × Option Str)
  looked : List (Str × Str)
  n : Nat
  op : Option V
  oq : Option V
  oo : Option V
theorem keys_len {α : Type} (xs : List (Str × α)) : (keys xs).length = xs.length := List.length_map _
section
variable {P : Program} {w : World} {K : PySem.W.Frag} {mg : Str → Option Value} {base : Heap} {C : Addr}
abbrev s_has_room : Stmt := top 14
abbrev N_has_room : List Str := ["rooms", "dealing", "place", "one"]
theorem sc_has_room : FnScope N_has_room ["rooms", "dealing", "place"] (C8.fnScope s_has_room) := ⟨rfl, rfl, rfl, by decide +kernel, rfl, by decide +kernel, by decide +kernel⟩
theorem ok_has_room (T : Bi mg) (Dd : Dn K mg "has_room" s_has_room ["rooms", "dealing", "place"]) : P_has_room P w K mg base := by
  refine cal3 Dd sc_has_room fun f cdv A outer s H E hr => ?_
  have hu := hu_of hr
  refine ⟨_, (pss_cons (ps_ret (pe_cmpR op_lt (pe_callB (k_len K) (by rfl) T.len (by decide +kernel) (pa_cons (pe_lockM (pe_lc (own := [("one", 3)]) (g := gName 3) (by rfl) sc_has_room.nd (pi_keys (pv 1)) (blkOk_by (own := [("one", 3)]) (N := N_has_room) (sc := C8.fnScope s_has_room) (by decide +kernel)) (fun _ _ _ _ _ => (pg_name (i := 3) sc_has_room.nd rfl (Or.inl rfl))) (fun _ _ _ _ _ => (pts_one (pt_cmpR op_eq (pe_dget hu (pv 1) (pv 3) (fun _ _ => rfl)) (pv 2) (nomark _)))) (fun _ _ _ _ _ => (pv 3)))) pa_nil)) (pe_dget hu (pv 0) (pv 2) (fun _ _ => rfl)) (nomark _))) pss_nil), ?_⟩
  rintro B D v1 v2 v3 rooms dealing place h1 h2 rfl hp ret hn
  obtain ⟨n, hn⟩ := Option.isSome_iff_exists.mp hp
  refine st_retF ret (ev_lt (ev_lenL (ev_lcK (u := tStr) (fun k => decide (dget dealing k = some place)) id evd_var ?_ ?_)) (ev_dget ev_var ev_var hn)) ?_
  · intro L k x hk
    obtain ⟨y, hy⟩ := mem_dget hk
    refine et_is (et_test (ev_eqS (ev_dget (k := k) (x := y) ev_var ev_var hy) ev_var)) ?_
    rw [hy]
    exact decide_eq_decide.mpr ⟨fun h => by rw [h], fun h => Option.some.inj h⟩
  · intro L k x hk _
    exact ev_var
  · rw [List.map_id]
    show _ = hasRoom rooms dealing place
    unfold hasRoom
    rw [hn]
    rfl
abbrev s_reach : Stmt := top 15
abbrev N_reach : List Str := ["wishes", "rooms", "dealing", "starts", "came", "person", "looked", "waiting", "at", "place", "other"]
theorem sc_reach : FnScope N_reach ["wishes", "rooms", "dealing", "starts"] (C8.fnScope s_reach) := ⟨rfl, rfl, rfl, by decide +kernel, rfl, by decide +kernel, by decide +kernel⟩
theorem ok_reach (T : Bi mg) (Dd : Dn K mg "reach" s_reach ["wishes", "rooms", "dealing", "starts"]) (c_has_room : P_has_room P w K mg base) : P_reach P w K mg base := by
  refine cal4 Dd sc_reach fun f cdv A outer s H E hr => ?_
  have hu := hu_of hr
  refine ⟨_, (pss_cons (ps_set (i := 4) sc_reach.nd rfl (Or.inl rfl) pe_dnewK) (
    pss_cons (ps_for PassesOwn.never rfl (pi_list (pv 3)) (pg_name (i := 5) sc_reach.nd rfl (Or.inl rfl))
    (pss_cons (ps_dput hu (pv 4) (pv 5) pe_non rfl) pss_nil)) (
    pss_cons (ps_set (i := 6) sc_reach.nd rfl (Or.inl rfl) pe_dnewK) (
    pss_cons (ps_set (i := 7) sc_reach.nd rfl (Or.inl rfl) (pe_callTy (k_list K) (by rfl) T.list (by decide +kernel) (pa_cons (pv 3) pa_nil))) (
    pss_cons (ps_set (i := 8) sc_reach.nd rfl (Or.inl rfl) pe_int) (
    pss_cons (ps_while PassesOwn.never (pt_cmpR op_lt (pv 8) (pe_callB (k_len K) (by rfl) T.len (by decide +kernel) (pa_cons (pv 7) pa_nil)) (nomark _))
    (pss_cons (ps_set (i := 5) sc_reach.nd rfl (Or.inl rfl) (pe_ix (ixL K) (pv 7) (pv 8) (fun _ _ => rfl))) (
      pss_cons (ps_for PassesOwn.never rfl (pi_list (pe_dget hu (pv 0) (pv 5) (fun _ _ => rfl))) (pg_name (i := 9) sc_reach.nd rfl (Or.inl rfl))
      (pss_cons (ps_if ((pw_and (pt_cmp (pc_dnotin hu (pv 9) (pv 6)) rfl) (pw_and1 (pt_cmpR op_ne (pe_dget1 hu (pv 2) (pv 5) ⟨rfl, rfl, rfl, rfl⟩) (pv 9) (nomark _))))).pt
        (pss_cons (ps_dput hu (pv 6) (pv 9) (pv 5) rfl) (
          pss_cons (ps_if ((pw_or (pt_cmpR o_isN (pv 9) pe_non (nomark _)) (pw_or1 (pt_val (C8.pe_c c_has_room hr (by decide) (by rfl) (pa_cons (pv 1) (pa_cons (pv 2) (pa_cons (pv 9) pa_nil)))))))).pt
          (pss_cons (ps_ret (pe_tup (pa_cons (pv 4) (pa_cons (pv 6) (pa_cons (pv 9) (pa_cons pe_bl pa_nil)))))) pss_nil)
          pss_nil) (
          pss_cons (ps_lockM (ps_for PassesOwn.never rfl (pi_keys (pv 2)) (pg_name (i := 10) sc_reach.nd rfl (Or.inl rfl))
          (pss_cons (ps_if ((pw_and (pt_cmpR op_eq (pe_dget hu (pv 2) (pv 10) (fun _ _ => rfl)) (pv 9) (nomark _)) (pw_and1 (pt_cmp (pc_dnotin hu (pv 10) (pv 4)) rfl)))).pt
            (pss_cons (ps_dput hu (pv 4) (pv 10) (pv 9) rfl) (
              pss_cons (ps_expr (k_bm K rfl PySem.F.plainAttrs_list PySem.F.slot_list_append PySem.F.type_list_append mt_append (pv 7) (pa_cons (pv 10) pa_nil))) pss_nil))
            pss_nil) pss_nil))) pss_nil)))
        pss_nil) pss_nil)) (
      pss_cons (ps_aug (i := 8) sc_reach.nd rfl (Or.inl rfl) pe_int ip_add) pss_nil)))) (
    pss_cons (ps_ret (pe_tup (pa_cons (pv 4) (pa_cons (pv 6) (pa_cons pe_non (pa_cons pe_bl pa_nil)))))) pss_nil))))))), ?_⟩
  rintro B D v1 v2 v3 v4 ws rooms d starts h1 h2 h3 h4 pre ret -
  have pre : PreR ws rooms d starts := pre
  have l1 := pre.l1
  have l2 := pre.l2
  have l3 := pre.l3
  refine st_newD fun pc => ?_
  refine st_forL (tgN tStr 5) (fun i (γ : Option V × List (Str × Option Str)) => γ.2 = (starts.take i).map fun s => (s, none)) (fun _ => Asr.tt) (fun γ => [(pc, .dK (akv (oV V.str) γ.2))]) (fun γ => [some v1, some v2, some v3, some v4, some (.ref pc), γ.1, none, none, none, none, none]) ev_var (none, []) rfl (fun _ _ => trivial) ?_ ?_
  · rintro L i p ω ⟨o, c⟩ hx ho hc
    have ho2 : ω = V.str p := ho
    subst ho2
    have hc2 : c = _ := hc
    have hcl : c.length ≤ 20 := by rw [hc2, List.length_map, List.length_take]; omega
    refine st_dputA (f := oV V.str) (x := none) (j := 0) rfl (Nat.lt_of_le_of_lt hcl (by decide)) ev_optN ev_var ?_
    refine st_turn rfl (some (.str p), dput c p none) ?_ (fun _ _ => trivial)
    show dput c p none = _
    rw [dput_new, hc2, take_map_snoc _ hx]
    rw [hc2, show ((starts.take i).map fun s => ((s, none) : Str × Option Str)).map (·.1) = starts.take i by simp [Function.comp_def]]
    exact not_mem_take pre.nd hx
  rintro L ⟨o, c⟩ hc
  have hc2 : c = _ := hc
  rw [List.take_of_length_le (Nat.le_refl _)] at hc2
  refine st_newD fun pl => ?_
  refine st_copyLA ev_var fun pw hw => ?_
  refine st_asgA ev_int ?_
  have ek : keys c = starts := by
    rw [hc2]
    unfold keys
    rw [List.map_map]
    exact List.map_id _
  refine st_while (fun c : RS => Rch ws d starts c.came c.looked ∧ c.n ≤ c.came.length ∧ Done ws d c.came c.looked c.n ∧ Fulc rooms d c.came (keys c.looked)) (fun c => starts.length + d.length - c.n) (fun _ => Asr.tt)
    (fun c => [(pw, .lst ((keys c.came).map V.str)), (pl, .dK (akv V.str c.looked)), (pc, .dK (akv (oV V.str) c.came))])
    (fun c => [some v1, some v2, some v3, some v4, some (.ref pc), c.op, some (.ref pl), some (.ref pw), some (.int (c.n : Int)), c.oq, c.oo])
    ⟨c, [], 0, o, none, none⟩ ⟨by rw [hc2]; exact Rch.init pre.nd pre.no, Nat.zero_le _, fun i hi => absurd hi (Nat.not_lt_zero i), fun q hq => absurd hq (by simp [keys])⟩ (fun _ _ => trivial) ?_ rfl (by show _ = [_, _, _]; rw [ek]; rfl)
  rintro ⟨came, looked, n, op, oq, oo⟩ ⟨hR, hn, hD, hF⟩
  dsimp only at hR hn hD hF ⊢
  refine ⟨_, et_test (ev_lt ev_var (ev_olen (j := 0) rfl)), fun hb => ?_, fun hb => ?_⟩
  · have hn2 : n < (keys came).length := by
      have := of_decide_eq_true hb
      rw [List.length_map] at this
      omega
    obtain ⟨p, hp⟩ : ∃ p, (keys came)[n]? = some p := ⟨_, List.getElem?_eq_getElem hn2⟩
    have hpm : p ∈ keys came := List.mem_of_getElem? hp
    obtain ⟨wp, hwp⟩ := Option.isSome_iff_exists.mp ((hR.room pre).2.2 p hpm)
    have ew : wsOf ws p = wp := by unfold wsOf; rw [hwp]; rfl
    refine st_asgA (f := V.str) (x := p) (ev_oix (j := 0) rfl ev_var rfl (zs := keys came) (n := n) hp) ?_
    refine st_forL (tgN tStr 9) (fun i (γ : RS) => Rch ws d starts γ.came γ.looked ∧ γ.n = n ∧ (keys γ.came)[n]? = some p ∧ Done ws d γ.came γ.looked n ∧ Fulc rooms d γ.came (keys γ.looked) ∧ ∀ q ∈ wp.take i, dget d p = some q ∨ q ∈ keys γ.looked) (fun _ => Asr.tt)
      (fun c => [(pw, .lst ((keys c.came).map V.str)), (pl, .dK (akv V.str c.looked)), (pc, .dK (akv (oV V.str) c.came))])
      (fun c => [some v1, some v2, some v3, some v4, some (.ref pc), some (.str p), some (.ref pl), some (.ref pw), some (.int (n : Int)), c.oq, c.oo])
      (ev_dget ev_var ev_var hwp) ⟨came, looked, n, op, oq, oo⟩ ⟨hR, rfl, hp, hD, hF, fun q hq => by simp at hq⟩ (fun _ _ => trivial) ?_ ?_
    · rintro L2 i q ω ⟨came, looked, n2, op, oq, oo⟩ hx ho ⟨hR, hn3, hp, hD, hF, hW⟩
      dsimp only at hR hn3 hp hD hF hW ⊢
      subst hn3
      have ho2 : ω = V.str q := ho
      subst ho2
      have hnl : n2 < (keys came).length := (List.getElem?_eq_some_iff.mp hp).1
      have hpm : p ∈ keys came := List.mem_of_getElem? hp
      have hqw : q ∈ wsOf ws p := by rw [ew]; exact List.mem_of_getElem? hx
      obtain ⟨z1, z2, z3⟩ := hR.room pre
      have snoc : ∀ {ks : List Str}, (dget d p = some q ∨ q ∈ ks) → (∀ q ∈ keys looked, q ∈ ks) → ∀ q ∈ wp.take (i + 1), dget d p = some q ∨ q ∈ ks := fun {ks} hq hs q2 h => by
        rw [List.take_add_one, hx] at h
        rcases List.mem_append.mp h with h | h
        · exact (hW q2 h).imp id (hs q2)
        · rw [List.mem_singleton.mp h]
          exact hq
      refine st_if (et_and (et_B (ev_onin (j := 1) (k := q) rfl ev_var)) fun _ => et_test (ev_neA (f := oV V.str) (g := V.str) (x := dget d p) (y := q) (ev_dget1 ev_var ev_var) ev_var (ovs_scal _ _))) (fun hb => ?_) (fun hb => ?_)
      · rw [Bool.and_eq_true, ovs] at hb
        have hq1 : q ∉ keys looked := fun z => by
          have := dget_isSome.mpr z
          rw [this] at hb
          exact nomatch hb.1
        have hq2 : dget d p ≠ some q := fun z => by
          rw [decide_eq_true z] at hb
          exact nomatch hb.2
        have hR2 := hR.look hpm hq1 hqw hq2
        have kl : keys (dput looked q p) = keys looked ++ [q] := keys_put_out hq1
        refine st_dputA (f := V.str) (x := p) (k := q) (j := 1) rfl (Nat.lt_of_le_of_lt (Nat.le_trans z2 l3) (by decide)) ev_var ev_var ?_
        refine st_if (et_is (et_or (b := hasRoom rooms d q) (et_test (ev_isN (f := V.str) (x := q) (b := false) ev_var rfl)) fun _ => et_B (ev_call (ea_cons ev_var (ea_cons ev_var (ea_cons ev_var ea_nil))) (pre.rm p q hqw))) (Bool.false_or _)) (fun hb2 => ?_) (fun hb2 => ?_)
        · refine st_lose (st_pub (pub_dA (xs := dput looked q p) (f := V.str) ?_) (st_pub (pub_dA (f := oV V.str) (xs := came) ?_) (st_retF (y := (came, dput looked q p, some q, true)) ret (ev_quad ev_var ev_var (ev_optS ev_var) ev_bl) ?_)))
          · have := dput_len looked q p
            omega
          · omega
          · exact .inl ⟨rfl, q, rfl, hR2, by rw [kl]; simp, hb2⟩
        · refine st_thru ?_
          refine st_forK (j := 10) (fun i (γ : List (Str × Option Str) × Option V) => Rch ws d starts γ.1 (dput looked q p) ∧ (∃ t, keys γ.1 = keys came ++ t) ∧ ∀ o ∈ (keys d).take i, dget d o = some q → o ∈ keys γ.1) (fun _ => Asr.tt)
            (fun c => [(pw, .lst ((keys c.1).map V.str)), (pl, .dK (akv V.str (dput looked q p))), (pc, .dK (akv (oV V.str) c.1))])
            (fun c => [some v1, some v2, some v3, some v4, some (.ref pc), some (.str p), some (.ref pl), some (.ref pw), some (.int (n2 : Int)), some (.str q), c.2])
            evd_var (came, oo) ⟨hR2, ⟨[], by rw [List.append_nil]⟩, fun o ho => by simp at ho⟩ (fun _ _ => trivial) ?_ ?_
          · rintro L3 B' D' hret i o x ⟨c3, o3⟩ hx3 ⟨hR3, ⟨t, et⟩, hA⟩
            dsimp only at hR3 et hA ⊢
            obtain ⟨r, hr2⟩ := mem_dget (List.mem_of_getElem? hx3)
            have hk3 : (keys d)[i]? = some o := by unfold keys; rw [List.getElem?_map, hx3]; rfl
            obtain ⟨y1, y2, y3⟩ := hR3.room pre
            have snoc3 : ∀ {c4 : List (Str × Option Str)}, (dget d o = some q → o ∈ keys c4) → (∀ p ∈ keys c3, p ∈ keys c4) → ∀ o ∈ (keys d).take (i + 1), dget d o = some q → o ∈ keys c4 := fun {c4} ho hs o2 h hd2 => by
              rw [List.take_add_one, hk3] at h
              rcases List.mem_append.mp h with h | h
              · exact hs _ (hA o2 h hd2)
              · have e9 : o2 = o := List.mem_singleton.mp h
                subst e9
                exact ho hd2
            refine st_if (et_and (et_test (ev_eqS (ev_dget (k := o) (x := r) ev_var ev_var hr2) ev_var)) fun _ => et_B (ev_onin (j := 2) (k := o) rfl ev_var)) (fun hb3 => ?_) (fun hb3 => ?_)
            · rw [Bool.and_eq_true] at hb3
              have e1 : r = q := of_decide_eq_true hb3.1
              subst e1
              have ho1 : o ∉ keys c3 := fun z => by
                have := dget_isSome.mpr z
                rw [this] at hb3
                exact nomatch hb3.2
              have kc : keys (dput c3 o (some r)) = keys c3 ++ [o] := keys_put_out ho1
              refine st_dputA (f := oV V.str) (x := some r) (k := o) (j := 2) rfl (sz40 (by omega)) (ev_optS ev_var) ev_var ?_
              refine st_appA (f := V.str) (x := o) (ys := keys c3) (j := 0) rfl (sz40 (by rw [keys_len]; omega)) ev_var ?_
              refine st_thru (st_turn rfl (dput c3 o (some r), some (.str o)) ⟨hR3.come ho1 (by rw [kl]; simp) hr2, ⟨t ++ [o], by rw [kc, et, List.append_assoc]⟩, ?_⟩ (fun _ _ => trivial) rfl ?_)
              · exact snoc3 (fun _ => by rw [kc]; simp) (fun p hp => by rw [kc]; exact List.mem_append_left _ hp)
              · show [_, _, _] = [_, _, _]
                rw [kc]
            · refine st_thru (st_turn rfl (c3, some (.str o)) ⟨hR3, ⟨t, et⟩, snoc3 (fun hd2 => ?_) (fun _ h => h)⟩ (fun _ _ => trivial))
              rw [hr2] at hd2
              rw [Option.some.inj hd2] at hb3
              rw [decide_eq_true rfl, Bool.true_and, Bool.not_eq_false'] at hb3
              exact dget_isSome.mp hb3
          · rintro L3 ⟨c3, o3⟩ ⟨hR3, ⟨t, et⟩, hA⟩
            dsimp only at hR3 et hA ⊢
            rw [List.take_of_length_le (by rw [keys_len]; exact Nat.le_refl _)] at hA
            refine st_thru (st_turn rfl ⟨c3, dput looked q p, n2, op, some (.str q), o3⟩ ⟨hR3, rfl, ?_, hD.ext (Nat.le_of_lt hnl) et (fun x hx => by rw [kl]; exact List.mem_append_left _ hx), ?_, ?_⟩ (fun _ _ => trivial))
            · show (keys c3)[n2]? = _
              rw [et, List.getElem?_append_left hnl]
              exact hp
            · intro x hx
              rw [kl] at hx
              rcases List.mem_append.mp hx with hx | hx
              · exact hF.ext et x hx
              · rw [List.mem_singleton.mp hx]
                exact ⟨hb2, fun o ho => hA o (dget_key ho) ho⟩
            · exact snoc (.inr (by rw [kl]; simp)) (fun x hx => by rw [kl]; exact List.mem_append_left _ hx)
      · refine st_thru (st_turn rfl ⟨came, looked, n2, op, some (.str q), oo⟩ ⟨hR, rfl, hp, hD, hF, snoc ?_ (fun _ h => h)⟩ (fun _ _ => trivial))
        rw [ovs] at hb
        by_cases z : q ∈ keys looked
        · exact .inr z
        · have z2 : (dget looked q).isSome = false := by
            rw [dget_none.mpr z]
            rfl
          rw [z2] at hb
          refine .inl ?_
          simpa using hb
    · rintro L2 ⟨came, looked, n2, op, oq, oo⟩ ⟨hR, hn3, hp, hD, hF, hW⟩
      dsimp only at hR hn3 hp hD hF hW ⊢
      subst hn3
      rw [List.take_of_length_le (Nat.le_refl _)] at hW
      have hnl : n2 < (keys came).length := (List.getElem?_eq_some_iff.mp hp).1
      rw [keys_len] at hnl
      obtain ⟨z1, z2, z3⟩ := hR.room pre
      refine st_augI (a := (n2 : Int)) (b := 1) ev_int ?_
      refine st_turn rfl ⟨came, looked, n2 + 1, some (.str p), oq, oo⟩ ⟨⟨hR, hnl, fun i hi p2 hp2 q hq => ?_, hF⟩, ?_⟩ (fun _ _ => trivial)
      · have hi2 : i < n2 + 1 := hi
        by_cases e : i = n2
        · rw [e, hp] at hp2
          cases hp2
          rw [ew] at hq
          exact hW q hq
        · exact hD i (by omega) p2 hp2 q hq
      · show starts.length + d.length - (n2 + 1) < starts.length + d.length - n2
        omega
  · obtain ⟨z1, z2, z3⟩ := hR.room pre
    have hn3 : n = (keys came).length := by
      have := of_decide_eq_false hb
      rw [List.length_map] at this
      rw [keys_len] at this ⊢
      omega
    refine st_lose (st_pub (pub_dA (f := V.str) (xs := looked) (by omega)) (st_pub (pub_dA (f := oV V.str) (xs := came) (by omega)) (st_retF (y := (came, looked, none, false)) ret (ev_quad ev_var ev_var ev_optN ev_bl) ?_)))
    refine .inr ⟨rfl, rfl, hR.clo (fun p hp q hq => ?_) hF⟩
    obtain ⟨i, hi, e⟩ := List.getElem_of_mem hp
    exact hD i (by omega) p (by rw [List.getElem?_eq_getElem hi, e]) q hq
abbrev s_led : Stmt := top 16
abbrev N_led : List Str := ["dealing", "came", "looked", "end", "found", "place", "going", "person"]
theorem sc_led : FnScope N_led ["dealing", "came", "looked", "end"] (C8.fnScope s_led) := ⟨rfl, rfl, rfl, by decide +kernel, rfl, by decide +kernel, by decide +kernel⟩
theorem ok_led (T : Bi mg) (Dd : Dn K mg "led" s_led ["dealing", "came", "looked", "end"]) : P_led P w K mg base := by
  refine cal4 Dd sc_led fun f cdv A outer s H E hr => ?_
  have hu := hu_of hr
  refine ⟨_, (pss_cons (ps_set (i := 4) sc_led.nd rfl (Or.inl rfl) (pe_callTy c_dictD (by rfl) T.dict (by decide +kernel) (pa_cons (pv 0) pa_nil))) (
    pss_cons (ps_set (i := 5) sc_led.nd rfl (Or.inl rfl) (pv 3)) (
    pss_cons (ps_set (i := 6) sc_led.nd rfl (Or.inl rfl) pe_bl) (
    pss_cons (ps_while PassesOwn.never (pt_val (pv 6))
    (pss_cons (ps_set (i := 7) sc_led.nd rfl (Or.inl rfl) (pe_dget hu (pv 2) (pv 5) (fun _ _ => rfl))) (
      pss_cons (ps_expr (pe_dpop2 (pv 4) (pv 7) pe_non ⟨rfl, rfl, rfl, rfl⟩)) (
      pss_cons (ps_if (pt_cmpR o_notN (pv 5) pe_non (nomark _))
      (pss_cons (ps_dput hu (pv 4) (pv 7) (pv 5) rfl) pss_nil)
      pss_nil) (
      pss_cons (ps_set (i := 5) sc_led.nd rfl (Or.inl rfl) (pe_dget hu (pv 1) (pv 7) (fun _ _ => rfl))) (
      pss_cons (ps_set (i := 6) sc_led.nd rfl (Or.inl rfl) (pe_cmpR o_notN (pv 5) pe_non (nomark _))) pss_nil)))))) (
    pss_cons (ps_ret (pv 4)) pss_nil))))), ?_⟩
  rintro B D v1 v2 v3 v4 d came looked e h1 h2 h3 h4 ⟨hl, q, p, l, he, hp, hch, hnd, hcm⟩ ret -
  dsimp only at hl he hp hch hcm
  subst he
  have h42 : v4 = V.str q := h4
  subst h42
  refine st_copyDA ev_var fun pf _ => ?_
  refine st_asgA (f := oV V.str) (x := some q) (fun G H m l Q k => ⟨_, rfl, k _ G H (.refl l.le) rfl⟩) ?_
  refine st_asgA ev_bl ?_
  refine st_while (fun c : List (Str × Str) × Option Str × Bool × List Str × Option V => c.1.length ≤ 101 ∧ ((c.2.2.1 = true ∧ c.1.length ≤ 100 ∧ ∃ q0 p0, c.2.1 = some q0 ∧ dget looked q0 = some p0 ∧ ChP came looked p0 c.2.2.2.1 ∧ c.2.2.2.1.Nodup ∧ (∀ x ∈ c.2.2.2.1, dget came x = some (dget c.1 x)) ∧ ledF c.1 q0 c.2.2.2.1 = ledF d q l) ∨ (c.2.2.1 = false ∧ c.1 = ledF d q l)))
    (fun c => if c.2.2.1 then c.2.2.2.1.length + 1 else 0) (fun _ => Asr.tt) (fun c => [(pf, .dK (akv V.str c.1))])
    (fun c => [some v1, some v2, some v3, some (.str q), some (.ref pf), some (oV V.str c.2.1), some (.bl c.2.2.1), c.2.2.2.2])
    (d, some q, true, l, none) ⟨Nat.le_succ_of_le hl, .inl ⟨rfl, hl, q, p, rfl, hp, hch, hnd, hcm, rfl⟩⟩ (fun _ _ => trivial) ?_
  rintro ⟨dd, pl, go, ll, op⟩ ⟨hl1, hc⟩
  dsimp only at hl1 hc ⊢
  refine ⟨go, et_B ev_var, fun hg => ?_, fun hg => ?_⟩
  · rcases hc with ⟨-, hl2, q1, p1, eq1, hp1, hch1, hnd1, hcm1, hF⟩ | ⟨h, -⟩
    · subst eq1
      refine st_asgA (f := V.str) (x := p1) (ev_dget (k := q1) ev_var (fun G H m l Q k => ⟨_, rfl, k _ G H (.refl l.le) rfl⟩) hp1) ?_
      refine st_dpopA (k := p1) (j := 0) rfl ev_var ?_
      refine st_ifT (ev_notN (f := V.str) (x := q1) (b := true) (fun G H m l Q k => ⟨_, rfl, k _ G H (.refl l.le) rfl⟩) rfl |> et_test) ?_
      have hdl : (ddrop dd p1).length ≤ dd.length := drop_le
      refine st_dputA (f := V.str) (x := q1) (k := p1) (j := 0) rfl (Nat.lt_of_le_of_lt (Nat.le_trans hdl hl2) (by decide)) (fun G H m l Q k => ⟨_, rfl, k _ G H (.refl l.le) rfl⟩) ev_var ?_
      have hpl := dput_len (ddrop dd p1) p1 q1
      refine st_thru ?_
      have hpc : p1 ∈ ll := by cases hch1 <;> simp
      cases hch1 with
      | start h1 =>
        have e0 : dget dd p1 = none := by
          have := hcm1 p1 (by simp)
          rw [h1] at this
          exact (Option.some.inj this).symm
        refine st_asgA (f := oV V.str) (x := none) (ev_dget (k := p1) ev_var ev_var h1) ?_
        refine st_asgA (f := V.bl) (x := false) (ev_notN (f := oV V.str) (x := none) (fun G H m l Q k => ⟨_, rfl, k _ G H (.refl l.le) rfl⟩) rfl) ?_
        refine st_turn rfl (dput (ddrop dd p1) p1 q1, none, false, [], some (.str p1)) ⟨⟨by dsimp only; omega, .inr ⟨rfl, ?_⟩⟩, ?_⟩ (fun _ _ => trivial)
        · dsimp only
          rw [← hF]
          unfold ledF
          rw [e0]
        · simp [hg]
      | @step _ q2 p2 l2 h1 h2 h3 =>
        obtain ⟨hpl2, hnl⟩ := List.nodup_cons.mp hnd1
        have e0 : dget dd p1 = some q2 := by
          have := hcm1 p1 (by simp)
          rw [h1] at this
          exact (Option.some.inj this).symm
        have hdl2 := drop_len (xs := dd) (k := p1) (by rw [e0]; rfl)
        refine st_asgA (f := oV V.str) (x := some q2) (ev_dget (k := p1) ev_var ev_var h1) ?_
        refine st_asgA (f := V.bl) (x := true) (ev_notN (f := oV V.str) (x := some q2) (fun G H m l Q k => ⟨_, rfl, k _ G H (.refl l.le) rfl⟩) rfl) ?_
        refine st_turn rfl (dput (ddrop dd p1) p1 q1, some q2, true, l2, some (.str p1)) ⟨⟨by dsimp only; omega, .inl ⟨rfl, by dsimp only; omega, q2, p2, rfl, h2, h3, hnl, fun x hx => ?_, ?_⟩⟩, ?_⟩ (fun _ _ => trivial)
        · have ne : x ≠ p1 := fun z => hpl2 (by rw [← z]; exact hx)
          rw [dget_put, if_neg ne, dget_drop, if_neg ne]
          exact hcm1 x (List.mem_cons_of_mem _ hx)
        · dsimp only
          rw [← hF]
          conv => rhs; rw [ledF, e0]
        · simp [hg]
    · rw [hg] at h
      cases h
  · rcases hc with ⟨h, -⟩ | ⟨-, hc⟩
    · rw [hg] at h
      cases h
    · refine st_pub (pub_dA (f := V.str) (xs := dd) (by omega)) (st_retF ret ev_var ⟨q, p, l, rfl, hp, hch, hnd, hcm, hc⟩)
end
end G3
set_option maxRecDepth 100000
set_option maxHeartbeats 4000000
/-! G13: promises whose answer is the caller's own; a look at what is owned. -/
namespace G3
open PySem PySem.Spec PyProof.Rows L2
def SpO {ι α : Type} (A : TyA ι) (pre : ι → Prop) (f : α → V) (R : ι → List (Str × α) → Prop) : Sp := fun vs H Q _ => ∃ G i, Le G H ∧ A.r G vs i ∧ pre i ∧ ∀ p y G' H', Ext G H G' H' → H p = none → G' p = none → H' p = some (.dK (akv f y)) → y.length ≤ sizeLine → R i y → Q (.ref p) H'
def RetO (B : Bs) {α : Type} (f : α → V) (R : List (Str × α) → Prop) (D : Ends) : Prop := ∀ p y G' H', B.R G' H' → B.own p → G' p = none → H' p = some (.dK (akv f y)) → y.length ≤ sizeLine → R y → D.rt (.ref p) H'
def Z1O {α β : Type} (t1 : Ty α) (pre : α × Unit → Prop) (f : β → V) (R : α × Unit → List (Str × β) → Prop) (N : List Str) (t : TS) : Prop := ∀ (B : Bs) (D : Ends) (v1 : V) (x1 : α), t1.ok v1 x1 → pre (x1, ()) → RetO B f (R (x1, ())) D → St B (Asr.tt.is t1 v1 x1) [] t D (start N [v1])
section
variable {P : Program} {w : World} {K : PySem.W.Frag} {mg : Str → Option Value} {base : Heap} {x : Str} {st : Stmt} {N ps : List Str} {k : Nat} {α β : Type}
theorem cal1O {t1 : Ty α} {pre : α × Unit → Prop} {f : β → V} {R : α × Unit → List (Str × β) → Prop} {p1 : Str} (Dd : Dn K mg x st [p1]) (S : FnScope N [p1] (C8.fnScope st)) (h : Body P w K mg base N x st k (Z1O t1 pre f R N)) : C8.Cal P w K mg base (k + 1) x (SpO (aCons t1 aNil) pre f R) [] := by
  obtain ⟨fa, fd, Df, b⟩ := Dd.ex
  refine ⟨fa, fd, _, [], ?_, Df.mgf, Df.kp, b, .nil⟩
  refine C8.fn0 Df.fn S (fun vs H Q E ⟨G, i, _, ⟨v1, _, e1, _, e2⟩, _⟩ => by subst e1; have : _ = _ := e2; subst this; rfl) fun cdv A' outer s H vs Q E hr h2 => ?_
  obtain ⟨t, ht, z⟩ := h fa cdv A' outer s H E hr
  obtain ⟨G, i, l, a, p, q⟩ := h2
  refine ⟨t, ht, ?_⟩
  obtain ⟨v1, _, rfl, h1, e2⟩ := a
  have e3 : _ = _ := e2
  subst e3
  exact st_start (z (Bs.of G H) _ v1 i.1 (t1.of h1) p fun p y G' H' e hn hg hh hz hR => q p y G' H' e hn hg hh hz hR) ⟨trivial, h1⟩ l
end
section
variable {B : Bs} {M : Asr} {O : List (Addr × HO)} {σ : L2.St} {K : PySem.W.Frag} {α β ι : Type} {f : α → V} {te : TE} {tz : TS} {D : Ends} {i j : Nat} {p : Addr} {A : TyA ι} {pre : ι → Prop} {R : ι → List (Str × α) → Prop} {ta : TA} {a : ι} {E : XK}
theorem st_retO {R : List (Str × α) → Prop} {y : List (Str × α)} (k : RetO B f R D) (hO : O[j]? = some (p, .dK (akv f y))) (hz : y.length ≤ sizeLine) (hR : R y) (hs : σ[i]? = some (some (.ref p)) := by rfl) : St B M O (tSeq (tRet (tVar i)) tz) D σ := fun G H m e w =>
  ⟨_, hs, let ⟨a, b, c⟩ := w.at_ hO; k p y G H e a b c hz hR⟩
theorem evr_callO (h : EvA M O σ A ta a) (hp : pre a) : EvR M O σ (tDct (aty f)) (tCall (SpO A pre f R) [] E ta) (R a) := fun G H m l Q q => h G H m l _ fun vs G1 H1 e1 r1 => by
  show SpO A pre f R (vs ++ []) H1 Q E
  rw [List.append_nil]
  exact ⟨G1, a, e1.gh, r1, hp, fun p y G2 H2 e2 hn hg hh hz hR => q (.ref p) y _ H2 (e1.trans (e2.publish hn hh)) hR ⟨p, _, rfl, .inl upd_same, Fa.akv y, by rw [akv_len]; exact hz⟩⟩
theorem st_callO (h : EvA M O σ A ta a) (hp : pre a) (k : ∀ p y, R a y → y.length ≤ sizeLine → St B M ((p, .dK (akv f y)) :: O) tz D (σ.set i (some (.ref p)))) : St B M O (tSeq (tAsg (tCall (SpO A pre f R) [] E ta) (gName i)) tz) D σ := fun G H m e w =>
  h G H m (w.wl e) _ fun vs G1 H1 e1 r1 => by
    show SpO A pre f R (vs ++ []) H1 _ E
    rw [List.append_nil]
    have eB := B.ext e e1
    have w1 := w.ext e1
    refine ⟨G1, a, e1.gh, r1, hp, fun p y G2 H2 e2 hn hg hh hz hR => k p y hR hz G2 H2 (M.mono ((e1.trans e2).le (B.le e)) m) (B.ext eB e2) ⟨List.nodup_cons.mpr ⟨fun z => ?_, (w1.ext e2).1⟩, fun po hm => ?_⟩⟩
    · obtain ⟨q, hq, e3⟩ := List.mem_map.mp z
      have z := (w1.2 q hq).2.2
      rw [e3, hn] at z
      cases z
    · rcases List.mem_cons.mp hm with rfl | hm
      · exact ⟨B.new eB hn, hg, hh⟩
      · exact (w1.ext e2).2 po hm
/-- the visible heap without one thing -/
def hide (G : Hp) (p : Addr) : Hp := fun a => if a = p then none else G a
/-- an owned dict is looked at: what comes out are atoms in a new list -/
theorem st_seeA {xs : List (Str × α)} {g : β → V} {ys : List β} (hO : O = (p, .dK (akv f xs)) :: O.tail) (hl : xs.length ≤ 1000) (h : Ev (M.is (tDct (aty f)) (.ref p) xs) O.tail σ (tLst K (aty g)) te ys)
    (k : ∀ v, (∃ a, v = .ref a) → St B (M.is (tLst K (aty g)) v ys) O tz D (σ.set i (some v))) : St B M O (tSeq (tAsg te (gName i)) tz) D σ := fun G H m e w => by
  rw [hO] at w
  obtain ⟨o1, o2, o3⟩ := w.2 _ List.mem_cons_self
  dsimp only at o1 o2 o3
  have lg : Le G (upd G p (.dK (akv f xs))) := (Le.refl G).owned o2
  have lh : Le (upd G p (.dK (akv f xs))) H := fun a u ha => by
    by_cases q : a = p
    · subst q
      rw [upd_same] at ha
      rw [← ha]
      exact .inl o3
    · rw [upd_ne q] at ha
      exact B.le e a u ha
  refine h (upd G p (.dK (akv f xs))) H ⟨M.mono lg m, p, _, rfl, .inl upd_same, Fa.akv xs, by rw [akv_len]; exact sz _ hl⟩ ⟨lh, fun po hm => ?_⟩ _ fun v G2 H2 e2 r2 => ?_
  · obtain ⟨a2, b2, c2⟩ := w.2 po (List.mem_cons_of_mem _ hm)
    have ne : po.1 ≠ p := fun z => (List.nodup_cons.mp w.1).1 (List.mem_map.mpr ⟨po, hm, z⟩)
    exact ⟨by rw [upd_ne ne]; exact b2, c2⟩
  · have gp : G2 p = some (.dK (akv f xs)) := (e2.gg p (by rw [o3]; rfl)).trans upd_same
    have e3 : Ext G H (hide G2 p) H2 := by
      refine ⟨fun a ha => ?_, e2.hh, fun a u ha => ?_⟩
      · unfold hide
        by_cases q : a = p
        · rw [if_pos q, q, o2]
        · rw [if_neg q, e2.gg a ha, upd_ne q]
      · unfold hide at ha
        by_cases q : a = p
        · rw [if_pos q] at ha
          cases ha
        · rw [if_neg q] at ha
          exact e2.gh a u ha
    obtain ⟨a, vs, ev, hs, fa, hz⟩ := r2
    have hs2 : SqL K (hide G2 p) a vs := by
      have ne : ∀ {u}, G2 a = some u → (∀ kvs, u ≠ .dK kvs) → a ≠ p := fun {u} h1 h2 z => by
        rw [z, gp] at h1
        exact h2 _ (Option.some.inj h1).symm
      rcases hs with (h1 | ⟨o, h1⟩) | h1
      · refine .inl (.inl ?_)
        unfold hide
        rw [if_neg (ne h1 fun _ z => nomatch z)]
        exact h1
      · refine .inl (.inr ⟨o, ?_⟩)
        unfold hide
        rw [if_neg (ne h1 fun _ z => nomatch z)]
        exact h1
      · exact .inr h1
    have w2 : Own B O G H := by rw [hO]; exact w
    exact k v ⟨a, ev⟩ (hide G2 p) H2 ⟨M.mono (e3.le (B.le e)) m, a, vs, ev, hs2, fa, hz⟩ (B.ext e e3) (w2.ext e3)
end
end G3
namespace G3
open PySem PySem.Spec PyProof.Rows L2
section
variable {B : Bs} {M : Asr} {O : List (Addr × HO)} {σ : L2.St} {K : PySem.W.Frag} {α β ι γ : Type} {t : Ty α} {u : Ty β} {te ta : TE} {tz tu tw : TS} {D : Ends} {A : TyA ι} {E : XK}
/-- arguments that are only known by what holds of them -/
def EvAR (M : Asr) (O : List (Addr × HO)) (σ : L2.St) (A : TyA ι) (ta : TA) (S : ι → Prop) : Prop := ∀ G H, M.p G → Wl O G H → ∀ Q : List V → Hp → Prop, (∀ vs i G' H', Ext G H G' H' → S i → A.r G' vs i → Q vs H') → ta σ H Q
theorem ear_nil : EvAR M O σ aNil tNil (fun _ => True) := fun G H m l Q q => q [] () G H (.refl l.le) trivial rfl
theorem ear_cons {tr : TA} {R : α → Prop} {S : ι → Prop} (h : EvR M O σ t ta R) (hr : EvAR M O σ A tr S) : EvAR M O σ (aCons t A) (tCons ta tr) (fun i => R i.1 ∧ S i.2) := fun G H m l Q q =>
  h G H m l _ fun v x G1 H1 e1 hx r1 => hr G1 H1 (M.mono (e1.le l.le) m) (l.ext e1) _ fun vs i G2 H2 e2 hs r2 => q _ (x, i) G2 H2 (e1.trans e2) ⟨hx, hs⟩ ⟨v, vs, rfl, t.mono (e2.le e1.gh) r1, r2⟩
theorem evr_callR {tr : TA} {S pre : ι → Prop} {R : ι → β → Prop} (h : EvAR M O σ A tr S) (hp : ∀ i, S i → pre i) : EvR M O σ u (tCall (SpR A pre u R) [] E tr) (fun y => ∃ i, S i ∧ R i y) := fun G H m l Q q => h G H m l _ fun vs i G1 H1 e1 hs r1 => by
  show SpR A pre u R (vs ++ []) H1 Q E
  rw [List.append_nil]
  exact ⟨G1, i, e1.gh, r1, hp i hs, fun v y G2 H2 e2 hR r2 => q v y G2 H2 (e1.trans e2) ⟨i, hs, hR⟩ r2⟩
/-- an if whose ends meet -/
theorem st_ifK {b : Bool} {tt : TT} (J : γ → Prop) (O' : γ → List (Addr × HO)) (S' : γ → L2.St) (h : EvT M O σ tt b) (rest : ∀ c, J c → St B M (O' c) tz D (S' c))
    (h1 : (∀ c, J c → St B M (O' c) tz D (S' c)) → b = true → St B M O tu { D with nx := tz D } σ) (h2 : (∀ c, J c → St B M (O' c) tz D (S' c)) → b = false → St B M O tw { D with nx := tz D } σ) : St B M O (tSeq (tIfS tt tu tw) tz) D σ := st_if h (h1 rest) (h2 rest)
theorem ev_varE {f : α → V} {x : α} {i : Nat} (h : σ[i]? = some (some (f x)) := by rfl) : Ev M O σ (aty f) (tVar i) x := fun G H m l Q k => ⟨_, h, k _ G H (.refl l.le) rfl⟩
end
end G3
set_option maxRecDepth 100000
set_option maxHeartbeats 4000000
/-! F5: grown, greatest_firsts, firsts_without, sorts_paper, sorts. -/
namespace G3
open PySem PySem.Spec PyProof.Rows L2
/-- held lists as the law builds them -/
structure Wok (W : Wo) : Prop where
  pn : W.people.Nodup
  pl : W.people.length ≤ 10
  qn : W.places.Nodup
  ql : W.places.length ≤ 10
  ff : ∀ p ∈ W.people, ∀ q ∈ W.first p, q ∈ W.places
  fn : ∀ p ∈ W.people, (W.first p).Nodup
  ho : ∀ q ∈ W.places, 1 ≤ W.hold q
def fw (W : Wo) : List (Str × List Str) := W.people.map fun p => (p, W.first p)
def ro (W : Wo) : List (Str × Int) := W.places.map fun q => (q, W.hold q)
def ordF (W : Wo) (d : List (Str × Str)) : List (Str × Str) := W.people.filterMap fun p => (dget d p).map fun q => (p, q)
section
variable {α : Type} {L : List Str} {g : Str → α} {k : Str}
theorem keys_mapF : keys (L.map fun p => (p, g p)) = L := by
  unfold keys
  rw [List.map_map]
  exact List.map_id _
theorem dget_mapF : dget (L.map fun p => (p, g p)) k = if k ∈ L then some (g k) else none := by
  by_cases h : k ∈ L
  · rw [if_pos h]
    obtain ⟨y, hy⟩ := Option.isSome_iff_exists.mp (dget_isSome.mpr (show k ∈ keys (L.map fun p => (p, g p)) by rw [keys_mapF]; exact h))
    obtain ⟨a, _, e⟩ := List.mem_map.mp (dget_mem hy)
    have e1 : a = k := congrArg Prod.fst e
    have e2 : g a = y := congrArg Prod.snd e
    rw [hy, ← e2, e1]
  · rw [if_neg h]
    exact dget_none.mpr (by rw [keys_mapF]; exact h)
theorem dput_mapF {x : α} (h : k ∈ L) : dput (L.map fun q => (q, g q)) k x = L.map fun q => (q, if q = k then x else g q) := by
  rw [dput_in (by rw [keys_mapF]; exact h), List.map_map]
  apply List.map_congr_left
  intro q _
  show (if q = k then (q, x) else (q, g q)) = _
  split <;> rfl
end
theorem wsOf_fw {W : Wo} {p : Str} : wsOf (fw W) p = if p ∈ W.people then W.first p else [] := by
  unfold wsOf fw
  rw [dget_mapF]
  split <;> rfl
theorem dget_ro {W : Wo} {q : Str} : dget (ro W) q = if q ∈ W.places then some (W.hold q) else none := dget_mapF
/-- how a dealing grows -/
inductive Grow (ws : List (Str × List Str)) (rooms : List (Str × Int)) : List Str → List (Str × Str) → Prop
  | nil : Grow ws rooms [] []
  | no {ps : List Str} {d : List (Str × Str)} {p : Str} {S T : List Str} : Grow ws rooms ps d → Clo ws rooms d [p] S T → Grow ws rooms (ps ++ [p]) d
  | yes {ps : List Str} {d d' : List (Str × Str)} {p : Str} {came : List (Str × Option Str)} {looked : List (Str × Str)} {q : Str} : Grow ws rooms ps d → Way ws rooms d [p] came looked q → RLed d came looked (some q) d' → Grow ws rooms (ps ++ [p]) d'
section
variable {ws : List (Str × List Str)} {rooms : List (Str × Int)} {d d' : List (Str × Str)} {starts : List Str} {came : List (Str × Option Str)} {looked : List (Str × Str)} {q : Str} {P : List Str}
theorem Way.pre (w : Way ws rooms d starts came looked q) (hl : d.length ≤ 100) : PreL d came looked (some q) := by
  obtain ⟨p, hp⟩ := Option.isSome_iff_exists.mp (dget_isSome.mpr w.lk)
  obtain ⟨l, hc, hn⟩ := w.r.ch p (w.r.lk q p hp).1
  refine ⟨hl, q, p, l, rfl, hp, hc, hn, fun x hx => ?_⟩
  obtain ⟨c, hc2⟩ := Option.isSome_iff_exists.mp (dget_isSome.mpr (hc.mem x hx))
  rw [hc2, (w.r.cm x c hc2).1]
theorem Rch.sub (r : Rch ws d starts came looked) : ∀ p ∈ keys came, p ∈ starts ∨ p ∈ keys d := fun p hp => by
  obtain ⟨c, hc⟩ := Option.isSome_iff_exists.mp (dget_isSome.mpr hp)
  obtain ⟨e, h⟩ := r.cm p c hc
  cases c with
  | none => exact .inl (h rfl)
  | some q => exact .inr (dget_key e.symm)
theorem way_led (hP : P.Nodup) (hs : ∀ s ∈ starts, s ∈ P) (hd : ∀ x ∈ keys d, x ∈ P) (w : Way ws rooms d starts came looked q) (h : RLed d came looked (some q) d') : ∃ s ∈ starts, Led ws P d q s d' ∧ ∃ p, q ∈ wsOf ws p := by
  obtain ⟨q', p, l, e, hp, hc, hn, hcm, rfl⟩ := h
  cases e
  obtain ⟨s, hs2, L⟩ := ledF_ok (ws := ws) hP hc hn hcm (fun x hx => (w.r.sub x (hc.mem x hx)).elim (hs x) (hd x)) (w.r.lk q p hp).2.1 (fun q p h => (w.r.lk q p h).2.1)
  exact ⟨s, (w.r.cm s none hs2).2 rfl, L, p, (w.r.lk q p hp).2.1⟩
theorem Led.keys {s : Str} (L : Led ws P d q s d') : ∀ x ∈ keys d', x ∈ keys d ∨ x = s := fun x hx => by
  have := L.dom x
  rw [dget_isSome.mpr hx] at this
  rcases Bool.or_eq_true_iff.mp this.symm with h | h
  · exact .inl (dget_isSome.mp h)
  · exact .inr (of_decide_eq_true h)
theorem Grow.ok {ps : List Str} (g : Grow ws rooms ps d) : ps.Nodup → (∀ x ∈ keys d, x ∈ ps) ∧ (keys d).Nodup := by
  induction g with
  | nil => exact fun _ => ⟨fun x h => absurd h (by simp [G3.keys]), List.nodup_nil⟩
  | no _ _ ih =>
    intro hn
    obtain ⟨h1, h2⟩ := ih (List.nodup_append.mp hn).1
    exact ⟨fun x hx => List.mem_append_left _ (h1 x hx), h2⟩
  | @yes ps d d' p came looked q _ w h ih =>
    intro hn
    obtain ⟨h1, h2⟩ := ih (List.nodup_append.mp hn).1
    obtain ⟨s, hs, L, _⟩ := way_led (P := ps ++ [p]) hn (fun s hs => List.mem_append_right _ hs) (fun x hx => List.mem_append_left _ (h1 x hx)) w h
    refine ⟨fun x hx => ?_, L.nd h2⟩
    rcases L.keys x hx with h | h
    · exact List.mem_append_left _ (h1 x h)
    · rw [h]
      exact List.mem_append_right _ hs
theorem Grow.len {ps : List Str} (g : Grow ws rooms ps d) (hn : ps.Nodup) : d.length ≤ ps.length := by
  have := nd_len (g.ok hn).2 (g.ok hn).1
  rw [keys_len] at this
  exact this
end
structure PreG (ws : List (Str × List Str)) (rooms : List (Str × Int)) (d : List (Str × Str)) (wanting : List Str) : Prop where
  d0 : d = []
  nd : wanting.Nodup
  wl : wanting.length ≤ 10
  rl : rooms.length ≤ 20
  w1 : ∀ p ∈ wanting, (dget ws p).isSome = true
  rm : ∀ p, ∀ q ∈ wsOf ws p, (dget rooms q).isSome = true
/-- a greatest dealing of firsts, as it is found -/
def RGr (W : Wo) (y : List (Str × Str)) : Prop := ∃ g, Grow (fw W) (ro W) W.people g ∧ y = ordF W g
/-- what is begun from -/
def lessR (W : Wo) : Option Str → List (Str × Int)
  | none => ro W
  | some q => dput (ro W) q (W.hold q - 1)
def thereL (d : List (Str × Str)) (q : Str) : List Str := (keys d).filter fun p => decide (dget d p = some q)
def lessD (W : Wo) (d : List (Str × Str)) : Option Str → List (Str × Str)
  | none => d
  | some q => if W.hold q - 1 < ((thereL d q).length : Int) then ddrop d ((thereL d q).headD "") else d
def leftL (W : Wo) (d : List (Str × Str)) (out : Option Str) : List Str := W.people.filter fun p => !(dget d p).isSome && !decide (some p = out)
def RFW (W : Wo) (whole : List (Str × Str)) (out less : Option Str) (y : List (Str × Str)) : Prop :=
  let rooms := lessR W less
  let d := lessD W (ddropO whole out) less
  let left := leftL W d out
  (∃ S T, Clo (fw W) rooms d left S T ∧ y = ordF W d) ∨ ∃ came looked q d', Way (fw W) rooms d left came looked q ∧ RLed d came looked (some q) d' ∧ y = ordF W d'
structure PreF (W : Wo) (whole : List (Str × Str)) (less : Option Str) : Prop where
  ok : Wok W
  wn : (keys whole).Nodup
  wp : ∀ p ∈ keys whole, p ∈ W.people
  le : ∀ q, less = some q → q ∈ W.places
section
variable (P : Program) (w : World) (K : PySem.W.Frag) (mg : Str → Option Value) (base : Heap) (C : Addr)
abbrev P_rooms_of : Prop := C8.Cal P w K mg base 4 "rooms_of" (SpO (aCons (tHeld K C) aNil) (fun i => Wok i.1) V.int fun i y => y = ro i.1) []
abbrev P_grown : Prop := C8.Cal P w K mg base 3 "grown" (SpR (aCons (tDct (tLst K tStr)) (aCons (tDct tInt) (aCons (tDct tStr) (aCons (tLst K tStr) aNil)))) (fun i => PreG i.1 i.2.1 i.2.2.1 i.2.2.2.1) (tDct tStr) fun i y => Grow i.1 i.2.1 i.2.2.2.1 y) []
abbrev P_greatest_firsts : Prop := C8.Cal P w K mg base 6 "greatest_firsts" (SpR (aCons (tHeld K C) aNil) (fun i => Wok i.1) (tDct tStr) fun i y => RGr i.1 y) []
abbrev P_firsts_without : Prop := C8.Cal P w K mg base 6 "firsts_without" (SpR (aCons (tHeld K C) (aCons (tDct tStr) (aCons (tOpt V.str) (aCons (tOpt V.str) aNil)))) (fun i => PreF i.1 i.2.1 i.2.2.2.1) (tDct tStr) fun i y => RFW i.1 i.2.1 i.2.2.1 i.2.2.2.1 y) []
end
theorem opt_ok (o : Option Str) : oV V.str o = (match o with | none => .non | some x => .str x) := by cases o <;> rfl
section
variable {P : Program} {w : World} {K : PySem.W.Frag} {mg : Str → Option Value} {base : Heap} {C : Addr}
theorem Wok.rm {W : Wo} (o : Wok W) : ∀ p, ∀ q ∈ wsOf (fw W) p, q ∈ W.places := fun p q hq => by
  rw [wsOf_fw] at hq
  split at hq
  · exact o.ff p (by assumption) q hq
  · exact absurd hq (by simp)
abbrev s_rooms_of : Stmt := top 18
abbrev N_rooms_of : List Str := ["lists", "rooms", "place"]
theorem sc_rooms_of : FnScope N_rooms_of ["lists"] (C8.fnScope s_rooms_of) := ⟨rfl, rfl, rfl, by decide +kernel, rfl, by decide +kernel, by decide +kernel⟩
theorem ok_rooms_of (T : Bi mg) (Dd : Dn K mg "rooms_of" s_rooms_of ["lists"]) (m_places : P_places P w K mg base C) (m_holders : P_holders P w K mg base C) : P_rooms_of P w K mg base C := by
  refine cal1O Dd sc_rooms_of fun f cdv A outer s H E hr => ?_
  have hu := hu_of hr
  refine ⟨_, (pss_cons (ps_set (i := 1) sc_rooms_of.nd rfl (Or.inl rfl) pe_dnewK) (
    pss_cons (ps_for PassesOwn.never rfl (pi_list (C8.pe_mt0 m_places hr (by decide) (pv 0))) (pg_name (i := 2) sc_rooms_of.nd rfl (Or.inl rfl))
    (pss_cons (ps_dput hu (pv 1) (pv 2) (C8.pe_mt m_holders hr (by decide) (pv 0) (pa_cons (pv 2) pa_nil)) rfl) pss_nil)) (
    pss_cons (ps_ret (pv 1)) pss_nil))), ?_⟩
  rintro B D v1 W h1 ok ret
  have ok : Wok W := ok
  have hN := ok.qn
  have hl := ok.ql
  refine st_newD fun p => ?_
  refine st_forL (tgN tStr 2) (fun i (γ : Option V × List (Str × Int)) => γ.2 = (W.places.take i).map fun q => (q, W.hold q)) (fun _ => Asr.tt) (fun γ => [(p, .dK (akv V.int γ.2))]) (fun γ => [some v1, some (.ref p), γ.1]) (ev_meth ev_var ea_nil trivial) (none, []) rfl (fun _ _ => trivial) ?_ ?_
  · rintro L i q ω ⟨o, c⟩ hx ho hc
    have ho2 : ω = V.str q := ho
    subst ho2
    have hc2 : c = _ := hc
    have hq : q ∈ W.places := List.mem_of_getElem? hx
    have hcl : c.length ≤ 10 := by rw [hc2, List.length_map, List.length_take]; omega
    refine st_dputA (j := 0) rfl (Nat.lt_of_le_of_lt hcl (by decide)) (ev_meth ev_var (ea_cons ev_var ea_nil) (row_some hq)) ev_var ?_
    refine st_turn rfl (some (.str q), dput c q (W.hold q)) ?_ (fun _ _ => trivial)
    show dput c q (W.hold q) = _
    rw [dput_new, hc2, take_map_snoc _ hx]
    rw [hc2, show ((W.places.take i).map fun q => (q, W.hold q)).map (·.1) = W.places.take i by simp [Function.comp_def]]
    exact not_mem_take hN hx
  · rintro L ⟨o, c⟩ hc
    have hc2 : c = _ := hc
    rw [List.take_of_length_le (Nat.le_refl _)] at hc2
    subst hc2
    exact st_retO (j := 0) ret rfl (sz _ (by rw [List.length_map]; exact Nat.le_trans hl (by decide))) rfl
abbrev s_grown : Stmt := top 17
abbrev N_grown : List Str := ["wishes", "rooms", "dealing", "wanting", "found", "person", "came", "looked", "end", "good"]
theorem sc_grown : FnScope N_grown ["wishes", "rooms", "dealing", "wanting"] (C8.fnScope s_grown) := ⟨rfl, rfl, rfl, by decide +kernel, rfl, by decide +kernel, by decide +kernel⟩
theorem ok_grown (T : Bi mg) (Dd : Dn K mg "grown" s_grown ["wishes", "rooms", "dealing", "wanting"]) (c_reach : P_reach P w K mg base) (c_led : P_led P w K mg base) : P_grown P w K mg base := by
  refine cal4 Dd sc_grown fun f cdv A outer s H E hr => ?_
  have hu := hu_of hr
  refine ⟨_, (pss_cons (ps_set (i := 4) sc_grown.nd rfl (Or.inl rfl) (pe_callTy c_dictD (by rfl) T.dict (by decide +kernel) (pa_cons (pv 2) pa_nil))) (
    pss_cons (ps_for PassesOwn.never rfl (pi_list (pv 3)) (pg_name (i := 5) sc_grown.nd rfl (Or.inl rfl))
    (pss_cons (ps_asg (C8.pe_c c_reach hr (by decide) (by rfl) (pa_cons (pv 0) (pa_cons (pv 1) (pa_cons (pv 4) (pa_cons (pe_lst (pa_cons (pv 5) pa_nil)) pa_nil))))) (pg_tup rfl (pgs_cons (pg_name (i := 6) sc_grown.nd rfl (Or.inl rfl)) (pgs_cons (pg_name (i := 7) sc_grown.nd rfl (Or.inl rfl)) (pgs_cons (pg_name (i := 8) sc_grown.nd rfl (Or.inl rfl)) (pgs_cons (pg_name (i := 9) sc_grown.nd rfl (Or.inl rfl)) pgs_nil)))))) (
      pss_cons (ps_if (pt_val (pv 9))
      (pss_cons (ps_set (i := 4) sc_grown.nd rfl (Or.inl rfl) (C8.pe_c c_led hr (by decide) (by rfl) (pa_cons (pv 4) (pa_cons (pv 6) (pa_cons (pv 7) (pa_cons (pv 8) pa_nil)))))) pss_nil)
      pss_nil) pss_nil))) (
    pss_cons (ps_ret (pv 4)) pss_nil))), ?_⟩
  rintro B D v1 v2 v3 v4 ws rooms d wanting h1 h2 h3 h4 pre ret -
  have pre : PreG ws rooms d wanting := pre
  obtain rfl := pre.d0
  refine st_asg (ev_dictD ev_var) fun vf hf => ?_
  refine st_forL (tgN tStr 5) (fun i (γ : V × List (Str × Str) × Option V × Option V × Option V × Option V × Option V) => Grow ws rooms (wanting.take i) γ.2.1) (fun γ => Asr.tt.is (tDct tStr) γ.1 γ.2.1) (fun γ => [])
    (fun γ => [some v1, some v2, some v3, some v4, some γ.1, γ.2.2.1, γ.2.2.2.1, γ.2.2.2.2.1, γ.2.2.2.2.2.1, γ.2.2.2.2.2.2]) ev_var (vf, [], none, none, none, none, none) Grow.nil (fun G m => ⟨trivial, m.2⟩) ?_ ?_
  · rintro L i p ω ⟨vf, d, o5, o6, o7, o8, o9⟩ hx ho hG
    have ho2 : ω = V.str p := ho
    subst ho2
    dsimp only at hG
    have hpw : p ∈ wanting := List.mem_of_getElem? hx
    have hnt : (wanting.take i).Nodup := pre.nd.sublist (List.take_sublist _ _)
    obtain ⟨hk, hn⟩ := hG.ok hnt
    have hl := hG.len hnt
    have hl2 : d.length ≤ 10 := by rw [List.length_take] at hl; have := pre.wl; omega
    have e1 : wanting.take (i + 1) = wanting.take i ++ [p] := by rw [List.take_add_one, hx]; rfl
    have preR : PreR ws rooms d [p] := ⟨by simp, fun s hs => by
      rw [List.mem_singleton.mp hs]
      exact dget_none.mpr fun z => not_mem_take pre.nd hx (hk p z), by simp, by omega, pre.rl, fun s hs => by
      rw [List.mem_singleton.mp hs]
      exact pre.w1 p hpw, fun x hx => pre.w1 x (List.mem_of_mem_take (hk x hx)), pre.rm⟩
    refine st_asgGR (tg4 K (tDct (tOpt V.str)) (tDct tStr) (tOpt V.str) tBool 6 7 8 9) (evr_call (i := (ws, rooms, d, [p], ())) (ea_cons ev_var (ea_cons ev_var (ea_cons ev_var (ea_cons (ev_lst (exs_cons ev_var exs_nil) (by simp)) ea_nil)))) preR) fun ω y hy hω => ?_
    obtain ⟨w6, w7, w8, w9⟩ := ω
    obtain ⟨came, looked, e, good⟩ := y
    obtain ⟨-, -, o8, o9⟩ := hω
    have o8 : w8 = oV V.str e := o8
    have o9 : w9 = V.bl good := o9
    subst o8 o9
    refine st_if (et_B (b := good) ev_var) (fun hb => ?_) (fun hb => ?_)
    · rcases hy with ⟨-, q, hq, hw⟩ | ⟨h, -⟩
      · have hq : e = some q := hq
        subst hq
        refine st_asgR (evr_call (i := (d, came, looked, some q, ())) (ea_cons ev_var (ea_cons ev_var (ea_cons ev_var (ea_cons ev_var ea_nil)))) (hw.pre (by show d.length ≤ 100; omega))) fun v d' hd' _ => ?_
        refine st_thru (st_turn rfl (v, d', some (.str p), some w6, some w7, some (oV V.str (some q)), some (.bl good)) ?_ (fun G m => ⟨trivial, m.2⟩))
        show Grow ws rooms (wanting.take (i + 1)) d'
        rw [e1]
        exact .yes hG hw hd'
      · rw [show good = false from h] at hb
        cases hb
    · rcases hy with ⟨h, -⟩ | ⟨-, -, hc⟩
      · rw [show good = true from h] at hb
        cases hb
      · refine st_thru (st_turn rfl (vf, d, some (.str p), some w6, some w7, some (oV V.str e), some (.bl good)) ?_ (fun G m => m.1.1.1.1.1.2))
        show Grow ws rooms (wanting.take (i + 1)) d
        rw [e1]
        exact .no hG hc
  · rintro L ⟨vf, d, o5, o6, o7, o8, o9⟩ hG
    dsimp only at hG
    rw [List.take_of_length_le (Nat.le_refl _)] at hG
    exact st_retF ret ev_var hG
abbrev s_greatest_firsts : Stmt := top 25
abbrev N_greatest_firsts : List Str := ["lists"]
theorem sc_greatest_firsts : FnScope N_greatest_firsts ["lists"] (C8.fnScope s_greatest_firsts) := ⟨rfl, rfl, rfl, by decide +kernel, rfl, by decide +kernel, by decide +kernel⟩
theorem ok_greatest_firsts (T : Bi mg) (Dd : Dn K mg "greatest_firsts" s_greatest_firsts ["lists"]) (c_need_held : P_need_held P w K mg base C) (c_in_order : P_in_order P w K mg base C) (c_grown : P_grown P w K mg base) (c_firsts_wishes : P_firsts_wishes P w K mg base C) (c_rooms_of : P_rooms_of P w K mg base C) (m_people : P_people P w K mg base C) : P_greatest_firsts P w K mg base C := by
  refine cal1 Dd sc_greatest_firsts fun f cdv A outer s H E hr => ?_
  have hu := hu_of hr
  refine ⟨_, (pss_cons (ps_expr (C8.pe_c c_need_held hr (by decide) (by rfl) (pa_cons (pv 0) pa_nil))) (
    pss_cons (ps_ret (C8.pe_c c_in_order hr (by decide) (by rfl) (pa_cons (pv 0) (pa_cons (C8.pe_c c_grown hr (by decide) (by rfl) (pa_cons (C8.pe_c c_firsts_wishes hr (by decide) (by rfl) (pa_cons (pv 0) pa_nil)) (pa_cons (C8.pe_c c_rooms_of hr (by decide) (by rfl) (pa_cons (pv 0) pa_nil)) (pa_cons pe_dnewK (pa_cons (C8.pe_mt0 m_people hr (by decide) (pv 0)) pa_nil))))) pa_nil)))) pss_nil)), ?_⟩
  rintro B D v1 W h1 ok ret -
  have ok : Wok W := ok
  refine st_drop (ev_call (ea_cons ev_var ea_nil) trivial) ?_
  refine st_ret ret fun G H m l Q q => ?_
  refine evr_callR (S := fun i => i.1 = W ∧ Grow (fw W) (ro W) W.people i.2.1 ∧ True) (ear_cons (R := fun x => x = W) (Ev.rel ev_var) (ear_cons (R := fun g => Grow (fw W) (ro W) W.people g) (fun G H m l Q q => ?_) ear_nil)) (fun i hi => by rw [hi.1]; exact ⟨ok.pn, ok.pl⟩) G H m l Q fun v y G' H' e hy r => q v y G' H' e ?_ r
  · refine evr_callR (S := fun i => i.1 = fw W ∧ i.2.1 = ro W ∧ i.2.2.1 = [] ∧ i.2.2.2.1 = W.people ∧ True) (ear_cons (R := fun x => x = fw W) (ev_call (ea_cons ev_var ea_nil) ⟨ok.pn, ok.pl⟩).rel (ear_cons (R := fun x => x = ro W) (evr_callO (ea_cons ev_var ea_nil) ok)
      (ear_cons (R := fun x => x = []) (Ev.rel ev_nilD) (ear_cons (R := fun x => x = W.people) (ev_meth ev_var ea_nil trivial).rel ear_nil)))) (fun i hi => ?_) G H m l Q fun v y G' H' e hy r => q v y G' H' e ?_ r
    · obtain ⟨a, b, c, d, u⟩ := i
      obtain ⟨rfl, rfl, rfl, rfl, -⟩ := hi
      refine ⟨rfl, ok.pn, ok.pl, ?_, fun p hp => ?_, fun p q hq => ?_⟩
      · show (ro W).length ≤ 20
        unfold ro
        rw [List.length_map]
        exact Nat.le_trans ok.ql (by decide)
      · show (dget (fw W) p).isSome = true
        unfold fw
        rw [dget_mapF, if_pos hp]
        rfl
      · show (dget (ro W) q).isSome = true
        rw [dget_ro, if_pos (ok.rm p q hq)]
        rfl
    · obtain ⟨⟨a, b, c, d, u⟩, ⟨rfl, rfl, rfl, rfl, -⟩, hg⟩ := hy
      exact hg
  · obtain ⟨⟨a, g, u⟩, ⟨rfl, hg, -⟩, he⟩ := hy
    exact ⟨g, hg, he⟩
theorem there_mem {d : List (Str × Str)} {q p : Str} : p ∈ thereL d q ↔ dget d p = some q := by
  unfold thereL
  rw [List.mem_filter]
  exact ⟨fun h => of_decide_eq_true h.2, fun h => ⟨dget_key h, decide_eq_true h⟩⟩
theorem left_mem {W : Wo} {d : List (Str × Str)} {out : Option Str} {p : Str} : p ∈ leftL W d out ↔ p ∈ W.people ∧ dget d p = none ∧ some p ≠ out := by
  unfold leftL
  rw [List.mem_filter]
  cases h : dget d p <;> simp
theorem ddropO_keys {whole : List (Str × Str)} {out : Option Str} : ∀ x ∈ keys (ddropO whole out), x ∈ keys whole := fun x hx => by
  cases out with
  | none => exact hx
  | some p =>
    have hx : x ∈ keys (ddrop whole p) := hx
    rw [keys_drop] at hx
    exact (List.mem_filter.mp hx).1
theorem ddropO_nd {whole : List (Str × Str)} {out : Option Str} (h : (keys whole).Nodup) : (keys (ddropO whole out)).Nodup := by
  cases out with
  | none => exact h
  | some p => exact nd_drop h
theorem lessD_keys {W : Wo} {d : List (Str × Str)} {less : Option Str} : ∀ x ∈ keys (lessD W d less), x ∈ keys d := fun x hx => by
  cases less with
  | none => exact hx
  | some q =>
    unfold lessD at hx
    dsimp only at hx
    split at hx
    · rw [keys_drop] at hx
      exact (List.mem_filter.mp hx).1
    · exact hx
theorem lessD_nd {W : Wo} {d : List (Str × Str)} {less : Option Str} (h : (keys d).Nodup) : (keys (lessD W d less)).Nodup := by
  cases less with
  | none => exact h
  | some q =>
    unfold lessD
    dsimp only
    split
    · exact nd_drop h
    · exact h
theorem lessR_len {W : Wo} {less : Option Str} (ok : Wok W) : (lessR W less).length ≤ 20 := by
  have h : (ro W).length ≤ 10 := by unfold ro; rw [List.length_map]; exact ok.ql
  cases less with
  | none => exact Nat.le_trans h (by decide)
  | some q =>
    have := dput_len (ro W) q (W.hold q - 1)
    unfold lessR
    dsimp only
    omega
theorem lessR_some {W : Wo} {less : Option Str} {q : Str} (h : q ∈ W.places) : (dget (lessR W less) q).isSome = true := by
  have h2 : (dget (ro W) q).isSome = true := by rw [dget_ro, if_pos h]; rfl
  cases less with
  | none => exact h2
  | some p =>
    unfold lessR
    dsimp only
    rw [dget_put]
    split
    · rfl
    · exact h2
abbrev s_firsts_without : Stmt := top 26
abbrev N_firsts_without : List Str := ["lists", "whole", "out", "less", "rooms", "found", "there", "person", "left", "came", "looked", "end", "good"]
theorem sc_firsts_without : FnScope N_firsts_without ["lists", "whole", "out", "less"] (C8.fnScope s_firsts_without) := ⟨rfl, rfl, rfl, by decide +kernel, rfl, by decide +kernel, by decide +kernel⟩
theorem ok_firsts_without (T : Bi mg) (Dd : Dn K mg "firsts_without" s_firsts_without ["lists", "whole", "out", "less"]) (c_rooms_of : P_rooms_of P w K mg base C) (m_people : P_people P w K mg base C) (c_reach : P_reach P w K mg base) (c_firsts_wishes : P_firsts_wishes P w K mg base C) (c_led : P_led P w K mg base) (c_in_order : P_in_order P w K mg base C) : P_firsts_without P w K mg base C := by
  refine cal4 Dd sc_firsts_without fun f cdv A outer s H E hr => ?_
  have hu := hu_of hr
  refine ⟨_, (pss_cons (ps_set (i := 4) sc_firsts_without.nd rfl (Or.inl rfl) (C8.pe_c c_rooms_of hr (by decide) (by rfl) (pa_cons (pv 0) pa_nil))) (
    pss_cons (ps_set (i := 5) sc_firsts_without.nd rfl (Or.inr rfl) (pe_callTy c_dictD (by rfl) T.dict (by decide +kernel) (pa_cons (pv 1) pa_nil))) (
    pss_cons (ps_expr (pe_dpopN (pv 5) (pv 2) pe_non ⟨rfl, rfl, rfl, rfl⟩)) (
    pss_cons (ps_if (pt_cmpR o_notN (pv 3) pe_non (nomark _))
    (pss_cons (ps_daug hu (pv 4) (pv 3) pe_int in_sub (fun _ _ _ => rfl)) (
      pss_cons (ps_lockM (ps_setLc (i := 6) (own := [("person", 7)]) (g := gName 7) (by rfl) sc_firsts_without.nd rfl rfl (sw_true rfl rfl rfl (by decide +kernel)) (pi_keys (pv 5)) (blkOk_by (own := [("person", 7)]) (N := N_firsts_without) (sc := C8.fnScope s_firsts_without) (by decide +kernel)) (fun _ _ _ _ _ => (pg_name (i := 7) sc_firsts_without.nd rfl (Or.inl rfl))) (fun _ _ _ _ _ => (pts_one (pt_cmpR op_eq (pe_dget hu (pv 5) (pv 7) (fun _ _ => rfl)) (pv 3) (nomark _)))) (fun _ _ _ _ _ => (pv 7)))) (
      pss_cons (ps_if (pt_cmpR op_gt (pe_callB (k_len K) (by rfl) T.len (by decide +kernel) (pa_cons (pv 6) pa_nil)) (pe_dget hu (pv 4) (pv 3) (fun _ _ => rfl)) (nomark _))
      (pss_cons (ps_expr (pe_dpop1 (pv 5) (pe_ix (ixL K) (pv 6) pe_int (fun _ _ => rfl)) ⟨rfl, rfl, rfl, rfl⟩)) pss_nil)
      pss_nil) pss_nil)))
    pss_nil) (
    pss_cons (ps_setLc (i := 8) (own := [("person", 7)]) (g := gName 7) (by rfl) sc_firsts_without.nd rfl rfl (sw_true rfl rfl rfl (by decide +kernel)) (pi_list (C8.pe_mt0 m_people hr (by decide) (pv 0))) (blkOk_by (own := [("person", 7)]) (N := N_firsts_without) (sc := C8.fnScope s_firsts_without) (by decide +kernel)) (fun _ _ _ _ _ => (pg_name (i := 7) sc_firsts_without.nd rfl (Or.inl rfl))) (fun _ _ _ _ _ => (pts_one ((pw_and (pt_cmp (pc_dnotin hu (pv 7) (pv 5)) rfl) (pw_and1 (pt_cmpR op_ne (pv 7) (pv 2) (nomark _))))).pt)) (fun _ _ _ _ _ => (pv 7))) (
    pss_cons (ps_asg (C8.pe_c c_reach hr (by decide) (by rfl) (pa_cons (C8.pe_c c_firsts_wishes hr (by decide) (by rfl) (pa_cons (pv 0) pa_nil)) (pa_cons (pv 4) (pa_cons (pv 5) (pa_cons (pv 8) pa_nil))))) (pg_tup rfl (pgs_cons (pg_name (i := 9) sc_firsts_without.nd rfl (Or.inl rfl)) (pgs_cons (pg_name (i := 10) sc_firsts_without.nd rfl (Or.inl rfl)) (pgs_cons (pg_name (i := 11) sc_firsts_without.nd rfl (Or.inl rfl)) (pgs_cons (pg_name (i := 12) sc_firsts_without.nd rfl (Or.inl rfl)) pgs_nil)))))) (
    pss_cons (ps_if (pt_val (pv 12))
    (pss_cons (ps_set (i := 5) sc_firsts_without.nd rfl (Or.inr rfl) (C8.pe_c c_led hr (by decide) (by rfl) (pa_cons (pv 5) (pa_cons (pv 9) (pa_cons (pv 10) (pa_cons (pv 11) pa_nil)))))) pss_nil)
    pss_nil) (
    pss_cons (ps_ret (C8.pe_c c_in_order hr (by decide) (by rfl) (pa_cons (pv 0) (pa_cons (pv 5) pa_nil)))) pss_nil)))))))), ?_⟩
  rintro B D v1 v2 v3 v4 W whole out less h1 h2 h3 h4 pre ret -
  have pre : PreF W whole less := pre
  have ok := pre.ok
  have h3 : v3 = oV V.str out := h3
  have h4 : v4 = oV V.str less := h4
  subst h3 h4
  refine st_callO (ea_cons ev_var ea_nil) ok fun pr y hy hz => ?_
  have hy : y = ro W := hy
  subst hy
  refine st_copyDA ev_var fun pf hfl => ?_
  have hwl : whole.length ≤ 10 := by
    have := nd_len pre.wn pre.wp
    rw [keys_len] at this
    exact Nat.le_trans this ok.pl
  refine st_dpopN (k := out) (f := V.str) (xs := whole) (j := 0) rfl ev_varE ?_
  have hdl : (ddropO whole out).length ≤ 10 := by
    cases out with
    | none => exact hwl
    | some p => exact Nat.le_trans drop_le hwl
  refine st_ifK (b := less.isSome) (fun c : List (Str × Str) × List (Str × Int) × Option V => c.1 = lessD W (ddropO whole out) less ∧ c.2.1 = lessR W less) (fun c => [(pf, .dK (akv V.str c.1)), (pr, .dK (akv V.int c.2.1))])
    (fun c => [some v1, some v2, some (oV V.str out), some (oV V.str less), some (.ref pr), some (.ref pf), c.2.2, none, none, none, none, none, none])
    (et_test (ev_notN (f := oV V.str) (x := less) ev_varE (by cases less <;> rfl))) ?_ (fun rest hb => ?_) (fun rest hb => ?_)
  · rintro ⟨d, rooms, o6⟩ ⟨hd, hrm⟩
    dsimp only at hd hrm ⊢
    have hk : ∀ x ∈ keys d, x ∈ W.people := fun x hx => by
      rw [hd] at hx
      exact pre.wp x (ddropO_keys x (lessD_keys x hx))
    have hnd : (keys d).Nodup := by
      rw [hd]
      exact lessD_nd (ddropO_nd pre.wn)
    have hl : d.length ≤ 10 := by
      have := nd_len hnd hk
      rw [keys_len] at this
      exact Nat.le_trans this ok.pl
    have hrl : rooms.length ≤ 20 := by
      rw [hrm]
      exact lessR_len ok
    refine st_asg (x := leftL W d out) (ev_is (ev_lcL (u := tStr) (tgN tStr 7) (fun p => !(dget d p).isSome && !decide (some p = out)) id (ev_meth ev_var ea_nil trivial) ?_ (fun L p ω hp ho _ => by cases ho; exact ev_var)) ?_) fun v8 hv8 => ?_
    · intro L p ω hp ho
      have ho : ω = V.str p := ho
      subst ho
      refine et_and (et_B (ev_onin (k := p) (j := 0) rfl ev_var)) fun _ => et_is (et_test (ev_neA (f := V.str) (g := oV V.str) (x := p) (y := out) ev_var ev_varE (by cases out <;> rfl))) ?_
      rw [show decide (V.str p = oV V.str out) = decide (some p = out) by
        rw [decide_eq_decide]
        exact ⟨fun h => (of_decide_eq_true ((ovs out p).symm.trans (decide_eq_true h.symm))).symm, fun h => (of_decide_eq_true ((ovs out p).trans (decide_eq_true h.symm))).symm⟩]
    · rw [List.map_id]
      rfl
    refine st_pub (pub_dA (xs := d) (f := V.str) (by omega)) (st_pub (pub_dA (xs := rooms) (f := V.int) (by omega)) ?_)
    have preR : PreR (fw W) rooms d (leftL W d out) := by
      refine ⟨ok.pn.filter _, fun s hs => (left_mem.mp hs).2.1, ?_, by omega, hrl, fun p hp => ?_, fun p hp => ?_, fun p q hq => ?_⟩
      · exact Nat.le_trans (List.length_filter_le _ _) (Nat.le_trans ok.pl (by decide))
      · unfold fw
        rw [dget_mapF, if_pos (left_mem.mp hp).1]
        rfl
      · unfold fw
        rw [dget_mapF, if_pos (hk p hp)]
        rfl
      · rw [hrm]
        exact lessR_some (ok.rm p q hq)
    refine st_asgGR (tg4 K (tDct (tOpt V.str)) (tDct tStr) (tOpt V.str) tBool 9 10 11 12) (evr_call (i := (fw W, rooms, d, leftL W d out, ())) (ea_cons (ev_call (ea_cons ev_var ea_nil) ⟨ok.pn, ok.pl⟩) (ea_cons ev_var (ea_cons ev_var (ea_cons ev_var ea_nil)))) preR) fun ω y hy hω => ?_
    obtain ⟨w6, w7, w8, w9⟩ := ω
    obtain ⟨came, looked, e, good⟩ := y
    obtain ⟨-, -, o8, o9⟩ := hω
    have o8 : w8 = oV V.str e := o8
    have o9 : w9 = V.bl good := o9
    subst o8 o9
    refine st_if (et_B (b := good) ev_var) (fun hb => ?_) (fun hb => ?_)
    · rcases hy with ⟨-, q, hq, hw⟩ | ⟨h, -⟩
      · have hq : e = some q := hq
        subst hq
        refine st_asgR (evr_call (i := (d, came, looked, some q, ())) (ea_cons ev_var (ea_cons ev_var (ea_cons ev_var (ea_cons ev_var ea_nil)))) (hw.pre (by show d.length ≤ 100; omega))) fun v d' hd' _ => ?_
        refine st_thru (st_retF ret (ev_call (ea_cons ev_var (ea_cons ev_var ea_nil)) ⟨ok.pn, ok.pl⟩) ?_)
        refine .inr ⟨came, looked, q, d', ?_, ?_, rfl⟩
        · show Way (fw W) (lessR W less) (lessD W (ddropO whole out) less) (leftL W (lessD W (ddropO whole out) less) out) came looked q
          rw [← hd, ← hrm]
          exact hw
        · show RLed (lessD W (ddropO whole out) less) came looked (some q) d'
          rw [← hd]
          exact hd'
      · rw [show good = false from h] at hb
        cases hb
    · rcases hy with ⟨h, -⟩ | ⟨-, -, hc⟩
      · rw [show good = true from h] at hb
        cases hb
      · refine st_thru (st_retF ret (ev_call (ea_cons ev_var (ea_cons ev_var ea_nil)) ⟨ok.pn, ok.pl⟩) ?_)
        refine .inl ⟨keys came, keys looked, ?_, by rw [hd]; rfl⟩
        show Clo (fw W) (lessR W less) (lessD W (ddropO whole out) less) (leftL W (lessD W (ddropO whole out) less) out) _ _
        rw [← hd, ← hrm]
        exact hc
  · cases less with
    | none => cases hb
    | some q =>
      have hqp := pre.le q rfl
      have hh := ok.ho q hqp
      refine st_daugI (k := q) (n := W.hold q) (z := 1) (ds := ro W) (j := 1) rfl ev_varE (by rw [dget_ro, if_pos hqp]) (Nat.lt_of_le_of_lt (by unfold ro; rw [List.length_map]; exact ok.ql) (by decide)) ev_int (fun H Q k => ⟨_, _, rfl, rfl, k⟩) ?_
      refine st_lockAsg (st_seeA (K := K) (xs := ddropO whole out) (f := V.str) (g := V.str) (ys := thereL (ddropO whole out) q) rfl (by omega) (ev_is (ev_lcK (u := tStr) (fun k => decide (dget (ddropO whole out) k = some q)) id evd_var ?_ (fun L k x hk _ => ev_var)) ?_) fun v6 ⟨a6, h6⟩ => ?_)
      · intro L k x hk
        obtain ⟨y, hy⟩ := mem_dget hk
        refine et_is (et_test (ev_eqS (ev_dget (k := k) (x := y) ev_var ev_var hy) ev_varE)) ?_
        rw [hy]
        exact decide_eq_decide.mpr ⟨fun h => by rw [h], fun h => Option.some.inj h⟩
      · rw [List.map_id]
        rfl
      have hget : dget (dput (ro W) q (W.hold q - 1)) q = some (W.hold q - 1) := by rw [dget_put, if_pos rfl]
      refine st_if (et_test (ev_gt (ev_lenL ev_var) (ev_oget (k := q) (j := 1) rfl ev_varE hget))) (fun hb2 => ?_) (fun hb2 => ?_)
      · have hb3 := of_decide_eq_true hb2
        obtain ⟨a, r, ht⟩ : ∃ a r, thereL (ddropO whole out) q = a :: r := by
          cases z : thereL (ddropO whole out) q with
          | nil =>
            rw [z] at hb3
            simp at hb3
            omega
          | cons a r => exact ⟨a, r, rfl⟩
        refine st_dpop1 (k := a) (f := V.str) (xs := ddropO whole out) (j := 0) rfl (ev_ixL (i := 0) ev_var ev_int rfl (by rw [ht]; rfl)) (by rw [there_mem.mp (show a ∈ thereL (ddropO whole out) q by rw [ht]; simp)]; rfl) ?_
        refine st_thru (st_thru ((rest (ddrop (ddropO whole out) a, dput (ro W) q (W.hold q - 1), some v6) ⟨?_, rfl⟩).weak fun G m => m.1))
        show _ = lessD W (ddropO whole out) (some q)
        unfold lessD
        dsimp only
        rw [if_pos hb3, ht]
        rfl
      · have hb3 := of_decide_eq_false hb2
        refine st_thru (st_thru ((rest (ddropO whole out, dput (ro W) q (W.hold q - 1), some v6) ⟨?_, rfl⟩).weak fun G m => m.1))
        show _ = lessD W (ddropO whole out) (some q)
        unfold lessD
        dsimp only
        rw [if_neg hb3]
  · cases less with
    | none => exact st_thru (rest (ddropO whole out, ro W, none) ⟨rfl, rfl⟩)
    | some q => cases hb
end
end G3
set_option maxRecDepth 100000
set_option maxHeartbeats 4000000
/-! F6: sorts_paper, sorts. -/
namespace G3
open PySem PySem.Spec PyProof.Rows L2
inductive Sel {D : Type} (R : Str → D → Prop) (ok : Str → D → Bool) : List Str → List (Str × D) → Prop
  | nil : Sel R ok [] []
  | yes {ps : List Str} {out : List (Str × D)} {p : Str} {y : D} : Sel R ok ps out → R p y → ok p y = true → Sel R ok (ps ++ [p]) (out ++ [(p, y)])
  | no {ps : List Str} {out : List (Str × D)} {p : Str} {y : D} : Sel R ok ps out → R p y → ok p y = false → Sel R ok (ps ++ [p]) out
theorem Sel.sub {D : Type} {R : Str → D → Prop} {ok : Str → D → Bool} {ps : List Str} {out : List (Str × D)} (h : Sel R ok ps out) : (∀ x ∈ keys out, x ∈ ps) ∧ out.length ≤ ps.length := by
  induction h with
  | nil => exact ⟨fun x h => h, Nat.le_refl _⟩
  | @yes ps out p y _ _ _ ih =>
    refine ⟨fun x hx => ?_, ?_⟩
    · have e : keys (out ++ [(p, y)]) = keys out ++ [p] := by unfold keys; rw [List.map_append]; rfl
      rw [e] at hx
      rcases List.mem_append.mp hx with h | h
      · exact List.mem_append_left _ (ih.1 x h)
      · exact List.mem_append_right _ h
    · rw [List.length_append, List.length_append]
      exact Nat.succ_le_succ ih.2
  | no _ _ _ ih => exact ⟨fun x hx => List.mem_append_left _ (ih.1 x hx), by rw [List.length_append]; exact Nat.le_succ_of_le ih.2⟩
def okP (W : Wo) (whole : List (Str × Str)) (p : Str) (y : List (Str × Str)) : Bool := !(W.first p).isEmpty && decide (y.length = whole.length)
def okQ (whole : List (Str × Str)) (_ : Str) (y : List (Str × Str)) : Bool := decide (y.length = whole.length)
def RSP (W : Wo) (y : List (Str × Str) × List (Str × List (Str × Str)) × List (Str × List (Str × Str))) : Prop :=
  RGr W y.1 ∧ Sel (fun p z => RFW W y.1 (some p) none z) (okP W y.1) W.people y.2.1 ∧ Sel (fun q z => RFW W y.1 none (some q) z) (okQ y.1) W.places y.2.2
def sortsF (W : Wo) (lp lq : List Str) : List (Str × Kd) × List (Str × Kd) :=
  (W.people.map fun p => (p, if p ∈ lp then Kd.loose else if (W.first p).any (fun q => decide (q ∈ lq)) then Kd.tight else Kd.paired),
    W.places.map fun q => (q, if W.people.any (fun p => decide (p ∈ lp) && decide (q ∈ W.first p)) then Kd.tight else if q ∈ lq then Kd.loose else Kd.paired))
def RSo (W : Wo) (y : List (Str × Kd) × List (Str × Kd)) : Prop := ∃ z, RSP W z ∧ y = sortsF W (keys z.2.1) (keys z.2.2)
section
variable (P : Program) (w : World) (K : PySem.W.Frag) (mg : Str → Option Value) (base : Heap) (C : Addr)
abbrev P_sorts_paper : Prop := C8.Cal P w K mg base 7 "sorts_paper" (SpR (aCons (tHeld K C) aNil) (fun i => Wok i.1) (tTrip K (tDct tStr) (tDct (tDct tStr)) (tDct (tDct tStr))) fun i y => RSP i.1 y) []
abbrev P_sorts : Prop := C8.Cal P w K mg base 8 "sorts" (SpR (aCons (tHeld K C) aNil) (fun i => Wok i.1) (tPair K (tDct tKd) (tDct tKd)) fun i y => RSo i.1 y) []
end
theorem keys_ord {W : Wo} {d : List (Str × Str)} : keys (ordF W d) = W.people.filter fun p => (dget d p).isSome := by
  unfold ordF keys
  induction W.people with
  | nil => rfl
  | cons a r ih =>
    rw [List.filterMap_cons, List.filter_cons]
    cases h : dget d a with
    | none =>
      rw [if_neg (by simp)]
      exact ih
    | some q =>
      rw [if_pos (by simp)]
      show a :: _ = a :: _
      rw [ih]
theorem kd_put {α : Type} {L : List Str} {g : Str → α} {i : Nat} {q : Str} (hn : L.Nodup) (hx : L[i]? = some q) (x : α) : dput ((L.take i).map fun q => (q, g q)) q x = ((L.take i).map fun q => (q, g q)) ++ [(q, x)] := by
  rw [dput_out]
  rw [keys_mapF]
  exact not_mem_take hn hx
section
variable {P : Program} {w : World} {K : PySem.W.Frag} {mg : Str → Option Value} {base : Heap} {C : Addr}
abbrev s_sorts_paper : Stmt := top 27
abbrev N_sorts_paper : List Str := ["lists", "whole", "people", "person", "other", "places", "place"]
theorem sc_sorts_paper : FnScope N_sorts_paper ["lists"] (C8.fnScope s_sorts_paper) := ⟨rfl, rfl, rfl, by decide +kernel, rfl, by decide +kernel, by decide +kernel⟩
theorem ok_sorts_paper (T : Bi mg) (Dd : Dn K mg "sorts_paper" s_sorts_paper ["lists"]) (c_greatest_firsts : P_greatest_firsts P w K mg base C) (m_people : P_people P w K mg base C) (m_places : P_places P w K mg base C) (c_firsts_without : P_firsts_without P w K mg base C) (c_first_group : P_first_group P w K mg base C) : P_sorts_paper P w K mg base C := by
  refine cal1 Dd sc_sorts_paper fun f cdv A outer s H E hr => ?_
  have hu := hu_of hr
  refine ⟨_, (pss_cons (ps_set (i := 1) sc_sorts_paper.nd rfl (Or.inl rfl) (C8.pe_c c_greatest_firsts hr (by decide) (by rfl) (pa_cons (pv 0) pa_nil))) (
    pss_cons (ps_set (i := 2) sc_sorts_paper.nd rfl (Or.inl rfl) pe_dnewK) (
    pss_cons (ps_for PassesOwn.never rfl (pi_list (C8.pe_mt0 m_people hr (by decide) (pv 0))) (pg_name (i := 3) sc_sorts_paper.nd rfl (Or.inl rfl))
    (pss_cons (ps_set (i := 4) sc_sorts_paper.nd rfl (Or.inl rfl) (C8.pe_c c_firsts_without hr (by decide) (by rfl) (pa_cons (pv 0) (pa_cons (pv 1) (pa_cons (pv 3) (pa_cons pe_non pa_nil)))))) (
      pss_cons (ps_if ((pw_and (pt_cmpR (o_neEK K hr.units0) (C8.pe_c c_first_group hr (by decide) (by rfl) (pa_cons (pv 0) (pa_cons (pv 3) pa_nil))) (pe_lst pa_nil) (nomark _)) (pw_and1 (pt_cmpR op_eq (pe_callB (k_len K) (by rfl) T.len (by decide +kernel) (pa_cons (pv 4) pa_nil)) (pe_callB (k_len K) (by rfl) T.len (by decide +kernel) (pa_cons (pv 1) pa_nil)) (nomark _))))).pt
      (pss_cons (ps_dput hu (pv 2) (pv 3) (pv 4) rfl) pss_nil)
      pss_nil) pss_nil))) (
    pss_cons (ps_set (i := 5) sc_sorts_paper.nd rfl (Or.inl rfl) pe_dnewK) (
    pss_cons (ps_for PassesOwn.never rfl (pi_list (C8.pe_mt0 m_places hr (by decide) (pv 0))) (pg_name (i := 6) sc_sorts_paper.nd rfl (Or.inl rfl))
    (pss_cons (ps_set (i := 4) sc_sorts_paper.nd rfl (Or.inl rfl) (C8.pe_c c_firsts_without hr (by decide) (by rfl) (pa_cons (pv 0) (pa_cons (pv 1) (pa_cons pe_non (pa_cons (pv 6) pa_nil)))))) (
      pss_cons (ps_if (pt_cmpR op_eq (pe_callB (k_len K) (by rfl) T.len (by decide +kernel) (pa_cons (pv 4) pa_nil)) (pe_callB (k_len K) (by rfl) T.len (by decide +kernel) (pa_cons (pv 1) pa_nil)) (nomark _))
      (pss_cons (ps_dput hu (pv 5) (pv 6) (pv 4) rfl) pss_nil)
      pss_nil) pss_nil))) (
    pss_cons (ps_ret (pe_tup (pa_cons (pv 1) (pa_cons (pv 2) (pa_cons (pv 5) pa_nil))))) pss_nil)))))), ?_⟩
  rintro B D v1 W h1 ok ret -
  have ok : Wok W := ok
  have hpl := ok.pl
  have hql := ok.ql
  refine st_asgR (evr_call (i := (W, ())) (ea_cons ev_var ea_nil) ok) fun vw whole hw _ => ?_
  have preF : ∀ {less : Option Str}, (∀ q, less = some q → q ∈ W.places) → PreF W whole less := fun hl => by
    obtain ⟨g, hg, e⟩ := hw
    refine ⟨ok, ?_, fun p hp => ?_, hl⟩
    · rw [e, keys_ord]
      exact ok.pn.filter _
    · rw [e, keys_ord] at hp
      exact (List.mem_filter.mp hp).1
  refine st_newD fun pp => ?_
  refine st_forL (tgN tStr 3) (fun i (γ : Option V × Option V × List (Key × V) × List (Str × List (Str × Str))) => Sel (fun p z => RFW W whole (some p) none z) (okP W whole) (W.people.take i) γ.2.2.2 ∧ γ.2.2.1.length ≤ i) (fun γ => kvsA (tDct tStr) γ.2.2.1 γ.2.2.2) (fun γ => [(pp, .dK γ.2.2.1)])
    (fun γ => [some v1, some vw, some (.ref pp), γ.1, γ.2.1, none, none]) (ev_meth ev_var ea_nil trivial) (none, none, [], []) ⟨.nil, Nat.zero_le _⟩ (fun _ _ => .nil) ?_ ?_
  · rintro L i p ω ⟨o3, o4, kvs, c⟩ hx ho ⟨hS, hk⟩
    have ho2 : ω = V.str p := ho
    subst ho2
    dsimp only at hS hk
    have hp : p ∈ W.people := List.mem_of_getElem? hx
    have hi : i < W.people.length := (List.getElem?_eq_some_iff.mp hx).1
    have e1 : W.people.take (i + 1) = W.people.take i ++ [p] := by rw [List.take_add_one, hx]; rfl
    have hnk : p ∉ keys c := fun z => not_mem_take ok.pn hx (hS.sub.1 p z)
    refine st_asgR (evr_call (i := (W, whole, some p, none, ())) (ea_cons ev_var (ea_cons ev_var (ea_cons (ev_optS ev_var) (ea_cons ev_optN ea_nil)))) (preF fun q h => (nomatch h))) fun vo other hother _ => ?_
    refine st_if (b := okP W whole p other) (et_and (et_test (ev_neE (ev_call (ea_cons ev_var (ea_cons ev_var ea_nil)) (row_some hp)))) fun _ => et_is (et_test (ev_eqI (ev_lenD ev_var) (ev_lenD ev_var))) (decide_eq_decide.mpr (by omega))) (fun hb => ?_) (fun hb => ?_)
    · refine st_dput (j := 0) rfl (Nat.lt_of_le_of_lt hk (Nat.lt_of_lt_of_le hi (Nat.le_trans hpl (by decide)))) ev_var ev_var fun v hv => ?_
      refine st_thru (st_turn rfl (some (.str p), some vo, putK kvs (.inr p) v, c ++ [(p, other)]) ⟨?_, Nat.le_trans (length_putK _ _ _) (Nat.succ_le_succ hk)⟩ (fun G m => ?_))
      · show Sel _ _ (W.people.take (i + 1)) _
        rw [e1]
        exact .yes hS hother hb
      · have := Fa.kput m.1.1.1.2 p m.2
        rw [dput_out hnk] at this
        exact this
    · refine st_thru (st_turn rfl (some (.str p), some vo, kvs, c) ⟨?_, Nat.le_succ_of_le hk⟩ (fun G m => m.1.1.2))
      show Sel _ _ (W.people.take (i + 1)) _
      rw [e1]
      exact .no hS hother hb
  rintro L ⟨o3, o4, kvs, c⟩ ⟨hS, hk⟩
  dsimp only at hS hk
  rw [List.take_of_length_le (Nat.le_refl _)] at hS
  have hcl : c.length ≤ 1000 := Nat.le_trans hS.sub.2 (Nat.le_trans hpl (by decide))
  refine st_pub (x := c) (t := tDct (tDct tStr)) (pub_dK hcl) ?_
  refine st_newD fun pq => ?_
  refine st_forL (tgN tStr 6) (fun i (γ : Option V × Option V × List (Key × V) × List (Str × List (Str × Str))) => Sel (fun q z => RFW W whole none (some q) z) (okQ whole) (W.places.take i) γ.2.2.2 ∧ γ.2.2.1.length ≤ i) (fun γ => kvsA (tDct tStr) γ.2.2.1 γ.2.2.2) (fun γ => [(pq, .dK γ.2.2.1)])
    (fun γ => [some v1, some vw, some (.ref pp), o3, γ.1, some (.ref pq), γ.2.1]) (ev_meth ev_var ea_nil trivial) (o4, none, [], []) ⟨.nil, Nat.zero_le _⟩ (fun _ _ => .nil) ?_ ?_
  · rintro L i p ω ⟨o4, o6, kvs, c2⟩ hx ho ⟨hS2, hk2⟩
    have ho2 : ω = V.str p := ho
    subst ho2
    dsimp only at hS2 hk2
    have hp : p ∈ W.places := List.mem_of_getElem? hx
    have hi : i < W.places.length := (List.getElem?_eq_some_iff.mp hx).1
    have e1 : W.places.take (i + 1) = W.places.take i ++ [p] := by rw [List.take_add_one, hx]; rfl
    have hnk : p ∉ keys c2 := fun z => not_mem_take ok.qn hx (hS2.sub.1 p z)
    refine st_asgR (evr_call (i := (W, whole, none, some p, ())) (ea_cons ev_var (ea_cons ev_var (ea_cons ev_optN (ea_cons (ev_optS ev_var) ea_nil)))) (preF fun q h => by cases h; exact hp)) fun vo other hother _ => ?_
    refine st_if (b := okQ whole p other) (et_is (et_test (ev_eqI (ev_lenD ev_var) (ev_lenD ev_var))) (decide_eq_decide.mpr (by omega))) (fun hb => ?_) (fun hb => ?_)
    · refine st_dput (j := 0) rfl (Nat.lt_of_le_of_lt hk2 (Nat.lt_of_lt_of_le hi (Nat.le_trans hql (by decide)))) ev_var ev_var fun v hv => ?_
      refine st_thru (st_turn rfl (some vo, some (.str p), putK kvs (.inr p) v, c2 ++ [(p, other)]) ⟨?_, Nat.le_trans (length_putK _ _ _) (Nat.succ_le_succ hk2)⟩ (fun G m => ?_))
      · show Sel _ _ (W.places.take (i + 1)) _
        rw [e1]
        exact .yes hS2 hother hb
      · have := Fa.kput m.1.1.1.2 p m.2
        rw [dput_out hnk] at this
        exact this
    · refine st_thru (st_turn rfl (some vo, some (.str p), kvs, c2) ⟨?_, Nat.le_succ_of_le hk2⟩ (fun G m => m.1.1.2))
      show Sel _ _ (W.places.take (i + 1)) _
      rw [e1]
      exact .no hS2 hother hb
  rintro L ⟨o4, o6, kvs2, c2⟩ ⟨hS2, hk2⟩
  dsimp only at hS2 hk2
  rw [List.take_of_length_le (Nat.le_refl _)] at hS2
  have hcl2 : c2.length ≤ 1000 := Nat.le_trans hS2.sub.2 (Nat.le_trans hql (by decide))
  refine st_pub (x := c2) (t := tDct (tDct tStr)) (pub_dK hcl2) ?_
  exact st_retF (y := (whole, c, c2)) ret (ev_trip ev_var ev_var ev_var) ⟨hw, hS, hS2⟩
abbrev s_sorts : Stmt := top 28
abbrev N_sorts : List Str := ["lists", "whole", "loose_people", "loose_places", "people", "places", "place", "person", "firsts"]
theorem sc_sorts : FnScope N_sorts ["lists"] (C8.fnScope s_sorts) := ⟨rfl, rfl, rfl, by decide +kernel, rfl, by decide +kernel, by decide +kernel⟩
theorem ok_sorts (T : Bi mg) (Dd : Dn K mg "sorts" s_sorts ["lists"]) (c_sorts_paper : P_sorts_paper P w K mg base C) (m_people : P_people P w K mg base C) (m_places : P_places P w K mg base C) (c_first_group : P_first_group P w K mg base C) : P_sorts P w K mg base C := by
  refine cal1 Dd sc_sorts fun f cdv A outer s H E hr => ?_
  have hu := hu_of hr
  refine ⟨_, (pss_cons (ps_asg (C8.pe_c c_sorts_paper hr (by decide) (by rfl) (pa_cons (pv 0) pa_nil)) (pg_tup rfl (pgs_cons (pg_name (i := 1) sc_sorts.nd rfl (Or.inl rfl)) (pgs_cons (pg_name (i := 2) sc_sorts.nd rfl (Or.inl rfl)) (pgs_cons (pg_name (i := 3) sc_sorts.nd rfl (Or.inr rfl)) pgs_nil))))) (
    pss_cons (ps_set (i := 4) sc_sorts.nd rfl (Or.inl rfl) pe_dnewK) (
    pss_cons (ps_set (i := 5) sc_sorts.nd rfl (Or.inl rfl) pe_dnewK) (
    pss_cons (ps_for PassesOwn.never rfl (pi_list (C8.pe_mt0 m_places hr (by decide) (pv 0))) (pg_name (i := 6) sc_sorts.nd rfl (Or.inl rfl))
    (pss_cons (ps_dput hu (pv 5) (pv 6) pe_str rfl) (
      pss_cons (ps_if (pt_cmp (pc_din hu (pv 6) (pv 3)) rfl)
      (pss_cons (ps_dput hu (pv 5) (pv 6) pe_str rfl) pss_nil)
      pss_nil) pss_nil))) (
    pss_cons (ps_for PassesOwn.never rfl (pi_list (C8.pe_mt0 m_people hr (by decide) (pv 0))) (pg_name (i := 7) sc_sorts.nd rfl (Or.inl rfl))
    (pss_cons (ps_dput hu (pv 4) (pv 7) pe_str rfl) (
      pss_cons (ps_set (i := 8) sc_sorts.nd rfl (Or.inl rfl) (C8.pe_c c_first_group hr (by decide) (by rfl) (pa_cons (pv 0) (pa_cons (pv 7) pa_nil)))) (
      pss_cons (ps_if (pt_cmp (pc_din hu (pv 7) (pv 2)) rfl)
      (pss_cons (ps_dput hu (pv 4) (pv 7) pe_str rfl) (
        pss_cons (ps_for PassesOwn.never rfl (pi_list (pv 8)) (pg_name (i := 6) sc_sorts.nd rfl (Or.inl rfl))
        (pss_cons (ps_dput hu (pv 5) (pv 6) pe_str rfl) pss_nil)) pss_nil))
      (pss_cons (ps_if (pt_cmpR (o_neEK K hr.units0) (pe_lc (own := [("place", 6)]) (g := gName 6) (by rfl) sc_sorts.nd (pi_list (pv 8)) (blkOk_by (own := [("place", 6)]) (N := N_sorts) (sc := C8.fnScope s_sorts) (by decide +kernel)) (fun _ _ _ _ _ => (pg_name (i := 6) sc_sorts.nd rfl (Or.inl rfl))) (fun _ _ _ _ _ => (pts_one (pt_cmp (pc_din hu (pv 6) (pv 3)) rfl))) (fun _ _ _ _ _ => (pv 6))) (pe_lst pa_nil) (nomark _))
        (pss_cons (ps_dput hu (pv 4) (pv 7) pe_str rfl) pss_nil)
        pss_nil) pss_nil)) pss_nil)))) (
    pss_cons (ps_ret (pe_tup (pa_cons (pv 4) (pa_cons (pv 5) pa_nil)))) pss_nil)))))), ?_⟩
  rintro B D v1 W h1 ok ret -
  have ok : Wok W := ok
  have hpl := ok.pl
  have hql := ok.ql
  refine st_asgGR (tg3 K (tDct tStr) (tDct (tDct tStr)) (tDct (tDct tStr)) 1 2 3) (evr_call (i := (W, ())) (ea_cons ev_var ea_nil) ok) fun ω y hy hω => ?_
  obtain ⟨w1, w2, w3⟩ := ω
  obtain ⟨whole, ppl, plc⟩ := y
  refine st_newD fun pp => ?_
  refine st_newD fun pq => ?_
  refine st_forL (tgN tStr 6) (fun i (γ : Option V × List (Str × Kd)) => γ.2 = (W.places.take i).map fun q => (q, if q ∈ keys plc then Kd.loose else Kd.paired)) (fun _ => Asr.tt) (fun γ => [(pq, .dK (akv Kd.v γ.2)), (pp, .dK [])]) (fun γ => [some v1, some w1, some w2, some w3, some (.ref pp), some (.ref pq), γ.1, none, none]) (ev_meth ev_var ea_nil trivial) (none, []) rfl (fun _ _ => trivial) ?_ ?_
  · rintro L i q ω ⟨o, c⟩ hx ho hc
    have ho2 : ω = V.str q := ho
    subst ho2
    have hc2 : c = _ := hc
    have hcl : c.length ≤ 10 := by rw [hc2, List.length_map, List.length_take]; omega
    have e1 : dput c q Kd.paired = c ++ [(q, Kd.paired)] := by rw [hc2]; exact kd_put ok.qn hx _
    refine st_dputA (f := Kd.v) (x := Kd.paired) (k := q) (j := 0) rfl (Nat.lt_of_le_of_lt hcl (by decide)) ev_kd ev_var ?_
    refine st_if (et_B (ev_din (k := q) ev_var ev_var)) (fun hb => ?_) (fun hb => ?_)
    · have hb := dget_isSome.mp hb
      refine st_dputA (f := Kd.v) (x := Kd.loose) (k := q) (j := 0) rfl (by rw [e1, List.length_append]; exact Nat.lt_of_le_of_lt (Nat.succ_le_succ hcl) (by decide)) ev_kd ev_var ?_
      refine st_thru (st_turn rfl (some (.str q), dput (dput c q Kd.paired) q Kd.loose) ?_ (fun _ _ => trivial))
      show _ = _
      rw [take_map_snoc _ hx, if_pos hb, hc2, show ((W.places.take i).map fun q => (q, if q ∈ keys plc then Kd.loose else Kd.paired)) = c from hc2.symm, e1]
      rw [dput_in (by unfold keys; rw [List.map_append]; simp), List.map_append]
      have e2 : c.map (fun kx => if kx.1 = q then (kx.1, Kd.loose) else kx) = c := by
        rw [List.map_congr_left (g := id), List.map_id]
        intro b hb2
        rw [if_neg]
        · rfl
        · intro z
          have hm := mem_keys hb2
          rw [hc2, keys_mapF, z] at hm
          exact not_mem_take ok.qn hx hm
      rw [e2]
      simp
    · have hb : q ∉ keys plc := fun z => by rw [dget_isSome.mpr z] at hb; cases hb
      refine st_thru (st_turn rfl (some (.str q), dput c q Kd.paired) ?_ (fun _ _ => trivial))
      show _ = _
      rw [take_map_snoc _ hx, if_neg hb, e1, hc2]
  rintro L ⟨o, c⟩ hc
  have hc2 : c = _ := hc
  rw [List.take_of_length_le (Nat.le_refl _)] at hc2
  subst hc2
  refine st_forL (tgN tStr 7) (fun i (γ : Option V × Option V × Option V × List (Str × Kd) × List (Str × Kd)) => γ.2.2.2.1 = ((W.people.take i).map fun p => (p, if p ∈ keys ppl then Kd.loose else if (W.first p).any (fun q => decide (q ∈ keys plc)) then Kd.tight else Kd.paired)) ∧
      γ.2.2.2.2 = W.places.map fun q => (q, if (W.people.take i).any (fun p => decide (p ∈ keys ppl) && decide (q ∈ W.first p)) then Kd.tight else if q ∈ keys plc then Kd.loose else Kd.paired)) (fun _ => Asr.tt)
    (fun γ => [(pq, .dK (akv Kd.v γ.2.2.2.2)), (pp, .dK (akv Kd.v γ.2.2.2.1))]) (fun γ => [some v1, some w1, some w2, some w3, some (.ref pp), some (.ref pq), γ.1, γ.2.1, γ.2.2.1]) (ev_meth ev_var ea_nil trivial) (o, none, none, [], _) ⟨rfl, rfl⟩ (fun _ _ => trivial) ?_ ?_
  · rintro L i p ω ⟨o6, o7, o8, cp, cq⟩ hx ho ⟨hcp, hcq⟩
    have ho2 : ω = V.str p := ho
    subst ho2
    dsimp only at hcp hcq
    have hp : p ∈ W.people := List.mem_of_getElem? hx
    have hl1 : cp.length ≤ 10 := by rw [hcp, List.length_map, List.length_take]; omega
    have hl2 : cq.length ≤ 10 := by rw [hcq, List.length_map]; exact hql
    have e0 : W.people.take (i + 1) = W.people.take i ++ [p] := by rw [List.take_add_one, hx]; rfl
    have e1 : ∀ x, dput cp p x = cp ++ [(p, x)] := fun x => by rw [hcp]; exact kd_put ok.pn hx _
    have e2 : ∀ x y, dput (dput cp p x) p y = cp ++ [(p, y)] := fun x y => by
      rw [e1, dput_in (by unfold keys; rw [List.map_append]; simp), List.map_append]
      rw [List.map_congr_left (g := id) (l := cp), List.map_id]
      · simp
      · intro b hb2
        rw [if_neg]
        · rfl
        · intro z
          have hm := mem_keys hb2
          rw [hcp, keys_mapF, z] at hm
          exact not_mem_take ok.pn hx hm
    have hcq0 : ∀ {b : Bool}, (b = false → p ∉ keys ppl) → b = false → cq = W.places.map fun q => (q, if (W.people.take (i + 1)).any (fun p => decide (p ∈ keys ppl) && decide (q ∈ W.first p)) then Kd.tight else if q ∈ keys plc then Kd.loose else Kd.paired) := fun h hb => by
      rw [hcq]
      apply List.map_congr_left
      intro q _
      rw [e0, List.any_append]
      have : ([p].any fun p => decide (p ∈ keys ppl) && decide (q ∈ W.first p)) = false := by simp [h hb]
      rw [this, Bool.or_false]
    refine st_dputA (f := Kd.v) (x := Kd.paired) (k := p) (j := 1) rfl (Nat.lt_of_le_of_lt hl1 (by decide)) ev_kd ev_var ?_
    have hl3 : (dput cp p Kd.paired).length < sizeLine := by rw [e1, List.length_append]; exact Nat.lt_of_le_of_lt (Nat.succ_le_succ hl1) (by decide)
    refine st_asg (ev_call (ea_cons ev_var (ea_cons ev_var ea_nil)) (row_some hp)) fun v8 _ => ?_
    refine st_if (et_B (ev_din (k := p) ev_var ev_var)) (fun hb => ?_) (fun hb => ?_)
    · have hb := dget_isSome.mp hb
      refine st_dputA (f := Kd.v) (x := Kd.loose) (k := p) (j := 1) rfl hl3 ev_kd ev_var ?_
      refine st_forL (tgN tStr 6) (fun j (γ : Option V × List (Str × Kd)) => γ.2 = W.places.map fun q => (q, if (W.people.take i).any (fun p => decide (p ∈ keys ppl) && decide (q ∈ W.first p)) || decide (q ∈ (W.first p).take j) then Kd.tight else if q ∈ keys plc then Kd.loose else Kd.paired)) (fun _ => Asr.tt)
        (fun γ => [(pq, .dK (akv Kd.v γ.2)), (pp, .dK (akv Kd.v (dput (dput cp p Kd.paired) p Kd.loose)))]) (fun γ => [some v1, some w1, some w2, some w3, some (.ref pp), some (.ref pq), γ.1, some (.str p), some v8]) ev_var (o6, cq) (by dsimp only; rw [hcq]; simp) (fun _ _ => trivial) ?_ ?_
      · rintro L2 j q ω ⟨o6, c⟩ hx2 ho hc
        have ho2 : ω = V.str q := ho
        subst ho2
        have hc2 : c = _ := hc
        have hq : q ∈ W.places := ok.ff p hp q (List.mem_of_getElem? hx2)
        refine st_dputA (f := Kd.v) (x := Kd.tight) (k := q) (j := 0) rfl (by rw [hc2, List.length_map]; exact Nat.lt_of_le_of_lt hql (by decide)) ev_kd ev_var ?_
        refine st_turn rfl (some (.str q), dput c q Kd.tight) ?_ (fun _ _ => trivial)
        show dput c q Kd.tight = _
        rw [hc2, dput_mapF hq]
        apply List.map_congr_left
        intro z _
        rw [List.take_add_one, hx2]
        by_cases ez : z = q
        · rw [if_pos ez, if_pos (by simp [ez])]
        · rw [if_neg ez]
          have : decide (z ∈ (W.first p).take j ++ (some q).toList) = decide (z ∈ (W.first p).take j) := by simp [ez]
          rw [this]
      · rintro L2 ⟨o6, c⟩ hc
        have hc2 : c = _ := hc
        rw [List.take_of_length_le (Nat.le_refl _)] at hc2
        refine st_thru (st_turn rfl (o6, some (.str p), some v8, dput (dput cp p Kd.paired) p Kd.loose, c) ⟨?_, ?_⟩ (fun _ _ => trivial))
        · show _ = _
          rw [e2, take_map_snoc _ hx, if_pos hb, hcp]
        · show c = _
          rw [hc2]
          apply List.map_congr_left
          intro q _
          rw [e0, List.any_append]
          have : ([p].any fun p => decide (p ∈ keys ppl) && decide (q ∈ W.first p)) = decide (q ∈ W.first p) := by simp [hb]
          rw [this]
    · have hb2 : p ∉ keys ppl := fun z => by rw [dget_isSome.mpr z] at hb; cases hb
      refine st_if (et_test (ev_neE (ev_lcL (u := tStr) (tgN tStr 6) (fun q => decide (q ∈ keys plc)) id ev_var (fun L q ω _ ho => ?_) (fun L q ω _ ho _ => by cases ho; exact ev_var)))) (fun hb3 => ?_) (fun hb3 => ?_)
      · have ho : ω = V.str q := ho
        subst ho
        refine et_is (et_B (ev_din (k := q) ev_var ev_var)) ?_
        rw [Bool.eq_iff_iff, dget_isSome, decide_eq_true_iff]
      · refine st_dputA (f := Kd.v) (x := Kd.tight) (k := p) (j := 1) rfl hl3 ev_kd ev_var ?_
        refine st_thru (st_thru (st_turn rfl (o6, some (.str p), some v8, dput (dput cp p Kd.paired) p Kd.tight, cq) ⟨?_, hcq0 (b := false) (fun _ => hb2) rfl⟩ (fun _ _ => trivial)))
        show _ = _
        rw [e2, take_map_snoc _ hx, if_neg hb2, if_pos, hcp]
        rw [List.map_id] at hb3
        rw [List.any_eq_true]
        cases z : (W.first p).filter fun q => decide (q ∈ keys plc) with
        | nil =>
          have hb3 : (!((W.first p).filter fun q => decide (q ∈ keys plc)).isEmpty) = true := hb3
          rw [z] at hb3
          cases hb3
        | cons a r =>
          have := List.mem_filter.mp (show a ∈ (W.first p).filter fun q => decide (q ∈ keys plc) by rw [z]; simp)
          exact ⟨a, this.1, this.2⟩
      · refine st_thru (st_thru (st_turn rfl (o6, some (.str p), some v8, dput cp p Kd.paired, cq) ⟨?_, hcq0 (b := false) (fun _ => hb2) rfl⟩ (fun _ _ => trivial)))
        show _ = _
        rw [e1, take_map_snoc _ hx, if_neg hb2, if_neg, hcp]
        rw [List.map_id] at hb3
        rw [List.any_eq_true]
        rintro ⟨a, ha, ha2⟩
        have hm := List.mem_filter (p := fun q => decide (q ∈ keys plc)) |>.mpr ⟨ha, ha2⟩
        have hb3 : (!((W.first p).filter fun q => decide (q ∈ keys plc)).isEmpty) = false := hb3
        cases z : (W.first p).filter fun q => decide (q ∈ keys plc) with
        | nil => rw [z] at hm; exact absurd hm (by simp)
        | cons a r => rw [z] at hb3; cases hb3
  · rintro L ⟨o6, o7, o8, cp, cq⟩ ⟨hcp, hcq⟩
    dsimp only at hcp hcq
    rw [List.take_of_length_le (Nat.le_refl _)] at hcp hcq
    have hl1 : cp.length ≤ 1000 := by rw [hcp, List.length_map]; exact Nat.le_trans hpl (by decide)
    have hl2 : cq.length ≤ 1000 := by rw [hcq, List.length_map]; exact Nat.le_trans hql (by decide)
    refine st_pub (pub_dA (f := Kd.v) (xs := cq) hl2) (st_pub (pub_dA (f := Kd.v) (xs := cp) hl1) (st_retF (y := (cp, cq)) ret (ev_pair ev_var ev_var) ⟨(whole, ppl, plc), hy, ?_⟩))
    rw [hcp, hcq]
    rfl
end
end G3
set_option maxRecDepth 100000
set_option maxHeartbeats 4000000
/-! G14: comprehensions over items, extend, pairs in a tuple of pairs, dicts with tuple keys. -/
namespace G3
open PySem PySem.Spec PyProof.Rows L2
/-- a list that nobody has locked -/
def tLstF {α : Type} (t : Ty α) : Ty (List α) where
  r := fun G v xs => ∃ a vs, v = .ref a ∧ G a = some (.lst vs) ∧ Fa (t.r G) vs xs ∧ vs.length ≤ sizeLine
  ok := fun v _ => ∃ a, v = .ref a
  of := fun ⟨a, _, e, _⟩ => ⟨a, e⟩
  mono := fun {G H v xs} x ⟨a, vs, e, h, g, z⟩ => ⟨a, vs, e, (by
    rcases x a _ h with h1 | ⟨_, _, e1, _⟩
    · exact h1
    · cases e1), g.imp fun _ _ => t.mono x, z⟩
section
variable {B : Bs} {M : Asr} {O : List (Addr × HO)} {σ : L2.St} {K : PySem.W.Frag} {α β Ω : Type} {t : Ty α} {u : Ty β} {te tl ta tb : TE} {g : TG} {tt : TT} {vs : List Nat} {tz : TS} {D : Ends}
theorem ev_lcLF {xs : List α} (tg : Tgt g t Ω) (f : α → Bool) (gx : α → β) (h : Ev M O σ (tLst K t) tl xs)
    (ht : ∀ (L : Asr) x ω, x ∈ xs → tg.ok ω x → EvT (tg.F (M.and L) ω x) O (tg.put ω (wipe σ vs)) tt (f x))
    (he : ∀ (L : Asr) x ω, x ∈ xs → tg.ok ω x → f x = true → Ev (tg.F (M.and L) ω x) O (tg.put ω (wipe σ vs)) u te (gx x)) (hw : ∀ ω, wipe (tg.put ω (wipe σ vs)) vs = wipe σ vs := by intro _; rfl) :
    Ev M O σ (tLstF u) (tLc (iList K tl) g tt te vs) ((xs.filter f).map gx) := fun G H m l Q q =>
  h G H m l _ fun v G1 H1 e1 ⟨a, ws, ev, hq, fa, z⟩ => by
    subst ev
    refine ⟨a, rfl, ⟨ws, e1.gh.sqL hq⟩, fun D hD => ?_⟩
    have hn := fa.length
    refine lc_core3 (B := Bs.of G1 H1) (N := M.and ⟨fun G => SqL K G a ws ∧ Fa (t.r G) ws xs, fun l x => ⟨l.sqL x.1, x.2.imp fun _ _ => t.mono l⟩⟩) (xs := xs) (t := t) (u := u) (O := O) (hn ▸ walk_list (K := K) (a := a) (xs := ws)) (fun m e => e.gh.sqL m.2.1) (fun {i H v H2 G} m e y => ?_) tg (fun e => (l.ext e1).ext e) f gx hw
      (fun i x ω hx => ht _ x ω (List.mem_of_getElem? hx)) (fun i x ω hx => he _ x ω (List.mem_of_getElem? hx)) (hn ▸ z) ⟨M.mono (e1.le l.le) m, hq, fa⟩ (.refl e1.gh) hD fun G2 H2 acc m2 e2 g2 h2 fa2 z2 => ?_
    · obtain ⟨rfl, y2⟩ := y
      obtain ⟨x, hx, r⟩ := m.2.2.get y2
      exact ⟨G, x, .refl e.gh, hx, r⟩
    · have ep := e2.publish hD h2
      exact q _ _ H2 (e1.trans ep) ⟨D, acc, rfl, upd_same, fa2.imp fun _ _ => u.mono ((Le.refl G2).owned g2), z2⟩
/-- l.extend(a new list) -/
theorem st_extF {i j : Nat} {p : Addr} {ws : List V} {xs ys : List α} (hO : O[j]? = some (p, .lst ws)) (hl : ws.length + ys.length ≤ sizeLine) [hm : HasL M ws t xs] (hv : Ev M O σ (tLstF t) te ys) (c : ∀ vs, vs.length = ys.length → St B (M.and ⟨fun G => Fa (t.r G) (ws ++ vs) (xs ++ ys), fun l x => x.imp fun _ _ => t.mono l⟩) (O.set j (p, .lst (ws ++ vs))) tz D σ) (hs : σ[i]? = some (some (.ref p)) := by rfl) :
    St B M O (tSeq (tDrop (tBM K "list" rExtend (tVar i) (tCons te tNil))) tz) D σ := fun G H m e w =>
  ⟨_, hs, .inl ⟨rfl, ws, .of (w.at_ hO).2.2⟩, hv G H m (w.wl e) _ fun v G1 H1 e1 r1 => by
    have eB := B.ext e e1
    have w1 := w.ext e1
    obtain ⟨o1, o2, o3⟩ := w1.at_ hO
    obtain ⟨a, vs, ev, h, g, z⟩ := id r1
    have m1 := M.mono (e1.le (B.le e)) m
    have ha : H1 a = some (.lst vs) := by
      rcases e1.gh a _ h with h1 | ⟨_, _, e2, _⟩
      · exact h1
      · cases e2
    exact ⟨p, a, ws, vs, rfl, by rw [ev], o3, ha, by rw [g.length]; exact hl, c vs g.length G1 _ ⟨m1, (hm.get m1).append g⟩ (B.set o1 eB o2) (w1.set hO)⟩⟩
/-! over a dict's items -/
theorem lcI_core {B : Bs} {xs : List (Str × α)} {td : TE} {d : Addr} {od : Obj} {kvs : List (Key × V)} {G H : Hp} {Q : VK} (tg : Tgt g (tPair K tStr t) Ω) (f : Str × α → Bool) (gx : Str × α → β) (frz : ∀ {G H}, B.R G H → H d = some (.frz od (.dK kvs))) (hwl : ∀ {G H}, B.R G H → Wl O G H)
    (ht : ∀ (L : Asr) x ω, x ∈ xs → tg.ok ω x → EvT (tg.F (M.and L) ω x) O (tg.put ω (wipe σ vs)) tt (f x))
    (he : ∀ (L : Asr) x ω, x ∈ xs → tg.ok ω x → f x = true → Ev (tg.F (M.and L) ω x) O (tg.put ω (wipe σ vs)) u te (gx x)) (hw : ∀ ω, wipe (tg.put ω (wipe σ vs)) vs = wipe σ vs)
    (m : M.p G) (e : B.R G H) (r : Rd G d (.dK kvs)) (fa : Fa (kvR t G) kvs xs) (z : kvs.length ≤ sizeLine) (ev : ∀ G' H', Le G G' → Le G' H' → ∀ Q : VK, Q (.ref d) H' → td σ H' Q)
    (q : ∀ D G2 H2 acc, H D = none → B.R G2 H2 → G2 D = none → H2 D = some (.lst acc) → Fa (u.r G2) acc ((xs.filter f).map gx) → acc.length ≤ sizeLine → Q (.ref D) H2) : tLc (iItems td) g tt te vs σ H Q := by
  refine ev G H (.refl G) (B.le e) _ ⟨d, od, kvs, rfl, frz e, fun D hD => ?_⟩
  have hn := fa.length
  refine lc_core3 (B := B) (N := M.and ⟨fun G => Fa (kvR t G) kvs xs, fun l x => x.imp fun _ _ z => ⟨z.1, t.mono l z.2⟩⟩) (xs := xs) (t := tPair K tStr t) (u := u) (O := O) (Gd := fun H => H d = some (.frz od (.dK kvs))) (hn ▸ walk_items (d := d) (o := od) (kvs := kvs)) (fun _ e => frz e) (fun {i H v H2 G} m e y => ?yd) tg hwl f gx hw
    (fun i x ω hx => ht _ x ω (List.mem_of_getElem? hx)) (fun i x ω hx => he _ x ω (List.mem_of_getElem? hx)) (hn ▸ z) ⟨m, fa⟩ e hD fun G2 H2 acc m2 e2 g2 h2 fa2 z2 => q D G2 H2 acc hD e2 g2 h2 fa2 z2
  case yd =>
    obtain ⟨T, x1, x2, rfl, hT, rfl, h1, h2⟩ := y
    dsimp only at h1 h2
    cases q : kvs[i]? with
    | none => rw [q] at h1; cases h1
    | some kv =>
      rw [q] at h1 h2
      obtain ⟨x, hx, r1, r2⟩ := m.2.get q
      have l1 := Ext.new (o := .tup [x1, x2]) (B.le e) hT
      refine ⟨_, x, l1, hx, T, x1, x2, rfl, .of upd_same, ?_, ?_⟩
      · show x1 = V.str x.1
        have q1 : kV kv.1 = x1 := Option.some.inj h1
        rw [← q1, r1]
        rfl
      · have q2 : kv.2 = x2 := Option.some.inj h2
        have r3 := t.mono (l1.le (B.le e)) r2
        rw [q2] at r3
        exact r3
theorem ev_lcI {xs : List (Str × α)} {td : TE} (tg : Tgt g (tPair K tStr t) Ω) (f : Str × α → Bool) (gx : Str × α → β) (h : EvD M O σ t td xs)
    (ht : ∀ (L : Asr) x ω, x ∈ xs → tg.ok ω x → EvT (tg.F (M.and L) ω x) O (tg.put ω (wipe σ vs)) tt (f x))
    (he : ∀ (L : Asr) x ω, x ∈ xs → tg.ok ω x → f x = true → Ev (tg.F (M.and L) ω x) O (tg.put ω (wipe σ vs)) u te (gx x)) (hw : ∀ ω, wipe (tg.put ω (wipe σ vs)) vs = wipe σ vs := by intro _; rfl) :
    Ev M O σ (tLst K u) (tLockEM (tLc (iItems td) g tt te vs)) ((xs.filter f).map gx) := fun G H m l Q q => by
  obtain ⟨d, kvs, r, fa, z, ev⟩ := h G H m l
  have hd : (G d).isSome = true := by rcases r with r | ⟨o, r⟩ <;> (rw [r]; rfl)
  have nd : ∀ po ∈ O, po.1 ≠ d := fun po hp z => by
    have g := (l.ow po hp).1
    rw [z] at g
    rw [g] at hd
    cases hd
  rcases l.le.rd r with hr | ⟨od, hr⟩
  · have gd : G d = some (.dK kvs) := by
      rcases r with r | ⟨o, r⟩
      · exact r
      · rcases l.le d _ r with q | ⟨k2, o2, q, _⟩
        · rw [hr] at q
          cases q
        · cases q
    refine .inl ⟨d, .dK kvs, hr, trivial, fun od => ?_⟩
    refine lcI_core (B := (Bs.of G H).lock d od kvs) (t := t) (u := u) (O := O) tg f gx (fun e => e.1) (fun {G2 H2} e => ⟨Bs.le _ e, fun po hp => ?_⟩) ht he hw m (lock_R (B := Bs.of G H) (.refl l.le) gd hr) r fa z ev fun D G2 H2 acc hD e2 g2 h2 fa2 z2 => ⟨e2.1, ?_⟩
    · have x := (l.ext e.2.2).ow po hp
      rw [upd_ne (nd po hp)] at x
      exact x
    · have ne : D ≠ d := fun z => by
        rw [z, upd_same] at hD
        cases hD
      rw [upd_ne ne] at hD
      have ep := Ext.publish (o := .lst acc) e2.2.2 hD (by rw [upd_ne ne]; exact h2)
      exact q _ _ _ ep ⟨D, acc, rfl, .of upd_same, fa2.imp fun _ _ => u.mono ((Le.refl G2).owned g2), z2⟩
  · refine .inr (lcI_core (B := (Bs.of G H).keep d od kvs) (t := t) (u := u) (O := O) tg f gx (fun e => e.1) (fun e => l.ext e.2) ht he hw m ⟨hr, .refl l.le⟩ r fa z ev fun D G2 H2 acc hD e2 g2 h2 fa2 z2 => ?_)
    have ep := Ext.publish (o := .lst acc) e2.2 hD h2
    exact q _ _ _ ep ⟨D, acc, rfl, .of upd_same, fa2.imp fun _ _ => u.mono ((Le.refl G2).owned g2), z2⟩
end
/-! ### a pair of sorts in a tuple of such pairs -/
def rInDT (K : PySem.W.Frag) : R2 := fun x y H Q => ∃ d ds, Dp K H x d ∧ Dp K H y (.tuple ds) ∧ SeqAt.shaped d = true ∧ SeqAt.shaped (.tuple ds) = true ∧ Q (.bl (ds.any fun z => PyData.eqv z d)) H
section
variable {X : Cx}
theorem op_inDT (hu : X.A.units + 65 < cLine) : OpR X (compareOp .In) (rInDT X.K) := by
  intro pins s σ H x y v u Q I rx ry h
  obtain ⟨d, ds, hd, he, sd, se, q⟩ := h
  obtain ⟨as, r1⟩ := Dp.reads I d x v hd rx
  obtain ⟨bs, r2⟩ := Dp.reads I (.tuple ds) y u he ry
  exact SeqAt.in_tuple_reads r2 r1 (SeqAt.canLay_of_shaped se) (SeqAt.canLay_of_shaped sd) (room_in_shaped sd hu) ⟨.bl _, H, I, rfl, q⟩
theorem o_inDT (K : PySem.W.Frag) (hu : X.A.units + 65 < cLine) (h : X.K = K := by rfl) : OpR X (compareOp .In) (rInDT K) := by
  subst h
  exact op_inDT hu
end
def kpD (x : Kd × Kd) : PyData := .tuple [.str x.1.s, .str x.2.s]
theorem kpD_eqv (x y : Kd × Kd) : PyData.eqv (kpD x) (kpD y) = decide (x = y) := by
  obtain ⟨a, b⟩ := x
  obtain ⟨c, d⟩ := y
  cases a <;> cases b <;> cases c <;> cases d <;> decide +kernel
theorem kpD_any (xs : List (Kd × Kd)) (x : Kd × Kd) : ((xs.map kpD).any fun z => PyData.eqv z (kpD x)) = decide (x ∈ xs) := by
  induction xs with
  | nil => rfl
  | cons a r ih =>
    rw [List.map_cons, List.any_cons, ih, kpD_eqv]
    by_cases h : a = x
    · subst h
      simp
    · have h2 : ¬ x = a := fun e => h e.symm
      simp [h, h2]
theorem kpD_shaped (x : Kd × Kd) : SeqAt.shaped (kpD x) = true := by
  obtain ⟨a, b⟩ := x
  cases a <;> cases b <;> decide +kernel
theorem kpDs_lay : ∀ zs : List (Kd × Kd), PyData.canLayAll0 (zs.map kpD) = true
  | [] => by simp [PyData.canLayAll0]
  | z :: zs => by simp [PyData.canLayAll0, SeqAt.canLay_of_shaped (kpD_shaped z), kpDs_lay zs]
theorem kpDs_depth : ∀ zs : List (Kd × Kd), PyData.depthAll (zs.map kpD) ≤ 64
  | [] => by simp [PyData.depthAll]
  | z :: zs => by
    have h1 := kpDs_depth zs
    have h2 := SeqAt.depth_of_shaped (kpD_shaped z)
    simp only [List.map_cons, PyData.depthAll]
    omega
theorem kpDs_shaped (zs : List (Kd × Kd)) (h : PyData.depth (.tuple (zs.map kpD)) ≤ 64) : SeqAt.shaped (.tuple (zs.map kpD)) = true := by
  show (PyData.canLay0 (.tuple (zs.map kpD)) && decide (PyData.depth (.tuple (zs.map kpD)) ≤ 64)) = true
  rw [Bool.and_eq_true]
  exact ⟨by simp only [PyData.canLay0]; exact kpDs_lay zs, decide_eq_true h⟩
section
variable {M : Asr} {O : List (Addr × HO)} {σ : L2.St} {K : PySem.W.Frag} {ta tb : TE}
theorem kp_dp {G H : Hp} {v : V} {x : Kd × Kd} (l : Le G H) (h : (tPair K tKd tKd).r G v x) : Dp K H v (kpD x) := by
  obtain ⟨a, v1, v2, rfl, hs, h1, h2⟩ := h
  have h1 : v1 = V.str x.1.s := h1
  have h2 : v2 = V.str x.2.s := h2
  subst h1 h2
  exact .tup (l.sqT hs) (.cons (.str _) (.cons (.str _) .nil))
theorem kps_dp {G H : Hp} (l : Le G H) {vs : List V} {xs : List (Kd × Kd)} (h : Fa ((tPair K tKd tKd).r G) vs xs) : DpAll K H vs (xs.map kpD) := by
  induction h with
  | nil => exact .nil
  | cons r _ ih => exact .cons (kp_dp l r) ih
theorem ev_inKP {x : Kd × Kd} {xs : List (Kd × Kd)} (ha : Ev M O σ (tPair K tKd tKd) ta x) (hb : Ev M O σ (tTup K (tPair K tKd tKd)) tb xs) (hd : PyData.depth (.tuple (xs.map kpD)) ≤ 64) : Ev M O σ tBool (tOp (rInDT K) ta tb) (decide (x ∈ xs)) :=
  ev_opA ha hb fun G H v v' Q l h1 ⟨a, vs, e, h, g, z⟩ q => by
    subst e
    exact ⟨kpD x, xs.map kpD, kp_dp l h1, .tup (l.sqT h) (kps_dp l g), kpD_shaped x, kpDs_shaped xs hd, by rw [kpD_any]; exact q⟩
end
end G3
set_option maxRecDepth 100000
set_option maxHeartbeats 4000000
/-! G15: a dict from pairs of texts to lists: setdefault and append, get. -/
namespace G3
open PySem PySem.Spec PyProof.Rows L2
def rSetT : V → List V → Hp → VK → Prop := fun x xs H Q => ∃ (a : Addr) (kvs : List (List Key × V)) (k : List Key) (b : Addr) (d : V), x = .ref a ∧ xs = [.ref b, d] ∧ H a = some (.dT kvs) ∧ H b = some (.tup (k.map kV)) ∧ kvs.length < sizeLine ∧
  (∀ v, valV kvs k = some v → Q v H) ∧ (valV kvs k = none → Q d (upd H a (.dT (putK kvs k d))))
section
variable {X : Cx}
theorem mt_setT (hu : X.A.units + 1 < cLine) : MtR X "dict.setdefault" rSetT := by
  intro pins s σ H x xs v us Q I rx rxs h
  obtain ⟨a, kvs, k, b, d, rfl, rfl, ha, hb, hl, q1, q2⟩ := h
  cases rx
  obtain ⟨u1, u2, rfl, r1, r2⟩ := vals2 rxs
  cases r1
  obtain ⟨z, hd, xs', rel, dd⟩ := dt_of I.hok ha
  have hz : xs'.length ≤ sizeLine := by rw [← Paired.length rel]; exact z
  refine call_setdefault_heap (hsz := hz) (tupleKind_room_in1 hu) (key_of I.hok hb) hd dd (fun p hp => ?_) (fun hn h' dd' hs => ?_)
  · have r := rel.val k
    rw [hp] at r
    obtain ⟨v0, ev, rv⟩ : ∃ v0, valV kvs k = some v0 ∧ RelV v0 p.2 := by
      cases ev : valV kvs k with
      | none =>
        rw [ev] at r
        exact (show False from r).elim
      | some v0 =>
        rw [ev] at r
        exact ⟨v0, rfl, r⟩
    exact ⟨v0, H, I.tok _, rv, q1 v0 ev⟩
  · have r := rel.val k
    rw [hn] at r
    have e : valV kvs k = none := by
      cases ev : valV kvs k with
      | none => rfl
      | some v0 =>
        rw [ev] at r
        exact (show False from r).elim
    obtain ⟨o, es, ep, hq, h2, h3, h4, _, h5⟩ := dd'
    have hl2 : (putK kvs k d).length ≤ sizeLine := by have := length_putK kvs k d; omega
    exact ⟨d, upd H a (.dT (putK kvs k d)), d_write I (by rw [ha]; exact True.intro) hs ⟨o, hq⟩ ⟨hl2, hd, _, (rel.put k hb r2).keeps (fun c ys ec => (by rw [upd_ne (ne_of ec ha (fun z => nomatch z))]; exact ec)), o, es, ep, hq, h2, h3, h4, h5⟩, r2, q2 e⟩
end
/-- its entries: key, place of its list, the list -/
abbrev Bes := List (List Key × Addr × List Kd)
def bd (bs : Bes) : List (List Key × V) := bs.map fun e => (e.1, .ref e.2.1)
def bO (p : Addr) (bs : Bes) : List (Addr × HO) := (p, .dT (bd bs)) :: bs.map fun e => (e.2.1, .lst (e.2.2.map Kd.v))
def bget (bs : Bes) (k : List Key) : List Kd := ((bs.find? fun e => decide (e.1 = k)).map (·.2.2)).getD []
theorem bd_val (bs : Bes) (k : List Key) : valV (bd bs) k = (bs.find? fun e => decide (e.1 = k)).map fun e => .ref e.2.1 := by
  unfold bd
  induction bs with
  | nil => rfl
  | cons a r ih =>
    rw [List.map_cons, List.find?_cons]
    by_cases h : a.1 = k
    · rw [decide_eq_true h, valV_pos h]
      rfl
    · rw [decide_eq_false h, valV_neg h]
      exact ih
theorem find_ix {α : Type} {p : α → Bool} {xs : List α} {x : α} (h : xs.find? p = some x) : ∃ i, xs[i]? = some x ∧ ∀ (j : Nat) y, j < i → xs[j]? = some y → p y = false := by
  induction xs with
  | nil => cases h
  | cons a r ih =>
    rw [List.find?_cons] at h
    cases q : p a with
    | true =>
      rw [q] at h
      exact ⟨0, by simpa using h, fun j y hj => absurd hj (Nat.not_lt_zero _)⟩
    | false =>
      rw [q] at h
      obtain ⟨i, h1, h2⟩ := ih h
      refine ⟨i + 1, h1, fun j y hj hy => ?_⟩
      cases j with
      | zero =>
        have e : a = y := by simpa using hy
        rw [← e]
        exact q
      | succ j => exact h2 j y (by omega) (by simpa using hy)
section
variable {B : Bs} {M : Asr} {O : List (Addr × HO)} {σ : L2.St} {K : PySem.W.Frag} {te ta tb : TE} {tz : TS} {D : Ends} {i : Nat} {p : Addr} {bs : Bes} {x : Kd} {s n : Str}
theorem bd_set {i : Nat} {e : List Key × Addr × List Kd} (he : bs[i]? = some e) (ys : List Kd) : bO p (bs.set i (e.1, e.2.1, ys)) = (bO p bs).set (i + 1) (e.2.1, .lst (ys.map Kd.v)) := by
  unfold bO
  rw [List.set_cons_succ, List.map_set]
  have e1 : bd (bs.set i (e.1, e.2.1, ys)) = bd bs := by
    unfold bd
    apply List.ext_getElem?
    intro j
    rw [List.getElem?_map, List.getElem?_map, List.getElem?_set]
    split
    · rename_i q
      subst q
      rw [he, if_pos (List.getElem?_eq_some_iff.mp he).1]
      rfl
    · rfl
  rw [e1]
theorem bO_at {i : Nat} {e : List Key × Addr × List Kd} (he : bs[i]? = some e) : (bO p bs)[i + 1]? = some (e.2.1, .lst (e.2.2.map Kd.v)) := by
  unfold bO
  rw [List.getElem?_cons_succ, List.getElem?_map, he]
  rfl
theorem ev_tup2 (ha : Ev M O σ tStr ta s) (hb : Ev M O σ tStr tb n) {G H : Hp} (m : M.p G) (l : Wl O G H) {Q : VK} (q : ∀ b G' H', Ext G H G' H' → H' b = some (.tup [V.str s, V.str n]) → Q (.ref b) H') : L2.tTup (tCons ta (tCons tb tNil)) σ H Q :=
  ha G H m l _ fun v G1 H1 e1 r1 => hb G1 H1 (M.mono (e1.le l.le) m) (l.ext e1) _ fun v2 G2 H2 e2 r2 => by
    cases r1
    cases r2
    exact ⟨by show 2 ≤ sizeLine; decide, fun b hb => q b _ _ ((e1.trans e2).trans (Ext.new e2.gh hb)) upd_same⟩
/-- d.setdefault((s, n), []).append(x) -/
theorem st_sapp (hO : O = bO p bs) (ha : Ev M O σ tStr ta s) (hb : Ev M O σ tStr tb n) (hv : ∀ bs2, Ev M (bO p bs2) σ tKd te x) (hl : bs.length ≤ 1000) (hl2 : ∀ e ∈ bs, e.2.2.length ≤ 1000)
    (k1 : ∀ i e, bs[i]? = some e → e.1 = [.inr s, .inr n] → (∀ j y, j < i → bs[j]? = some y → ¬ y.1 = [.inr s, .inr n]) → St B M (bO p (bs.set i (e.1, e.2.1, e.2.2 ++ [x]))) tz D σ)
    (k2 : (∀ e ∈ bs, ¬ e.1 = [.inr s, .inr n]) → ∀ q, St B M (bO p (bs ++ [([.inr s, .inr n], q, [x])])) tz D σ) (hs : σ[i]? = some (some (.ref p)) := by rfl) :
    St B M O (tSeq (tDrop (tBM K "list" rAppend (tBM K "dict" rSetT (tVar i) (tCons (L2.tTup (tCons ta (tCons tb tNil))) (tCons (L2.tLst tNil) tNil))) (tCons te tNil))) tz) D σ := fun G H m e w => by
  have big : (1000 : Nat) < sizeLine := by decide
  have hp0 : O[0]? = some (p, .dT (bd bs)) := by rw [hO]; rfl
  refine ⟨_, hs, .inr (.inr (.inl ⟨rfl, .inr ⟨_, (w.at_ hp0).2.2⟩⟩)), ?_⟩
  refine ev_tup2 ha hb m (w.wl e) fun b G1 H1 e1 h1 => ?_
  refine ⟨Nat.zero_le _, fun l hl0 => ?_⟩
  have eB1 := B.ext e e1
  have w1 := w.ext e1
  have x2 : Ext G1 H1 G1 (upd H1 l (.lst [])) := .newO (B.le eB1) hl0
  have eB2 := B.ext eB1 x2
  have w2 := w1.ext x2
  have m2 := M.mono ((e1.trans x2).le (B.le e)) m
  obtain ⟨o1, o2, o3⟩ := w2.at_ hp0
  have nb : b ≠ l := fun z => by rw [z, hl0] at h1; cases h1
  have hbl : (upd H1 l (.lst [])) b = some (.tup ([Sum.inr s, Sum.inr n].map kV)) := by
    rw [upd_ne nb, h1]
    rfl
  refine ⟨p, bd bs, [.inr s, .inr n], b, .ref l, rfl, rfl, o3, hbl, by unfold bd; rw [List.length_map]; omega, fun v hv0 => ?_, fun hn => ?_⟩
  · rw [bd_val] at hv0
    cases hf : bs.find? (fun e => decide (e.1 = [Sum.inr s, Sum.inr n])) with
    | none => rw [hf] at hv0; cases hv0
    | some e0 =>
      rw [hf] at hv0
      have ev : V.ref e0.2.1 = v := Option.some.inj hv0
      subst ev
      obtain ⟨i0, hi0, hmin⟩ := find_ix hf
      have hk0 : e0.1 = [Sum.inr s, Sum.inr n] := of_decide_eq_true (List.find?_some (p := fun e : List Key × Addr × List Kd => decide (e.1 = [Sum.inr s, Sum.inr n])) hf)
      have hat : O[i0 + 1]? = some (e0.2.1, .lst (e0.2.2.map Kd.v)) := by rw [hO]; exact bO_at hi0
      refine ⟨.inl ⟨rfl, _, .of (w2.at_ hat).2.2⟩, ?_⟩
      refine hv bs G1 _ (M.mono (e1.le (B.le e)) m) (hO ▸ w2.wl eB2) _ fun v3 G3 H3 e3 r3 => ?_
      have r3 : v3 = Kd.v x := r3
      subst r3
      have eB3 := B.ext eB2 e3
      have w3 := w2.ext e3
      obtain ⟨p1, p2, p3⟩ := w3.at_ hat
      refine ⟨e0.2.1, _, _, rfl, rfl, p3, ?_, ?_⟩
      · rw [List.length_map]
        have := hl2 e0 (List.mem_of_getElem? hi0)
        omega
      · have z := k1 i0 e0 hi0 hk0 (fun j y hj hy => of_decide_eq_false (hmin j y hj hy)) G3 (upd H3 e0.2.1 (.lst (e0.2.2.map Kd.v ++ [Kd.v x]))) (M.mono (e3.le (B.le eB2)) m2) (B.set p1 eB3 p2)
        have ws := w3.set (o' := .lst (e0.2.2.map Kd.v ++ [Kd.v x])) hat
        rw [bd_set hi0] at z
        rw [List.map_append] at z
        rw [hO] at ws
        exact z ws
  · rw [bd_val] at hn
    have hno : ∀ e ∈ bs, ¬ e.1 = [Sum.inr s, Sum.inr n] := fun e he z => by
      rw [Option.map_eq_none_iff, List.find?_eq_none] at hn
      exact hn e he (decide_eq_true z)
    have eput : putK (bd bs) [Sum.inr s, Sum.inr n] (V.ref l) = bd (bs ++ [([Sum.inr s, Sum.inr n], l, [])]) := by
      unfold putK
      rw [if_neg]
      · unfold bd
        rw [List.map_append]
        rfl
      · intro z
        obtain ⟨a, ha2, hb2⟩ := List.any_eq_true.mp z
        obtain ⟨e0, he0, ee⟩ := List.mem_map.mp (show a ∈ bs.map _ from ha2)
        have hb3 := of_decide_eq_true hb2
        rw [← ee] at hb3
        exact hno e0 he0 hb3
    have npl : l ≠ p := fun z => by
      have := (w1.at_ hp0).2.2
      rw [← z, hl0] at this
      cases this
    -- the new list is owned, the dict is stored
    have w2p : Own B ((l, .lst []) :: O) G1 (upd H1 l (.lst [])) := w1.push eB1 hl0
    have w2q := w2p.set (i := 1) (o' := .dT (bd (bs ++ [([Sum.inr s, Sum.inr n], l, [])]))) (show ((l, HO.lst []) :: O)[1]? = some (p, .dT (bd bs)) from hp0)
    rw [eput]
    have eB3 := B.set o1 (o := .dT (bd (bs ++ [([Sum.inr s, Sum.inr n], l, [])]))) eB2 o2
    have hll : (upd (upd H1 l (.lst [])) p (.dT (bd (bs ++ [([Sum.inr s, Sum.inr n], l, [])])))) l = some (.lst []) := by rw [upd_ne npl, upd_same]
    refine ⟨.inl ⟨rfl, [], .of hll⟩, ?_⟩
    have OO : Own B (bO p (bs ++ [([Sum.inr s, Sum.inr n], l, [])])) G1 (upd (upd H1 l (.lst [])) p (.dT (bd (bs ++ [([Sum.inr s, Sum.inr n], l, [])])))) := by
      have e9 : bO p (bs ++ [([Sum.inr s, Sum.inr n], l, [])]) = ((p, HO.dT (bd (bs ++ [([Sum.inr s, Sum.inr n], l, [])]))) :: (bs.map fun e => (e.2.1, HO.lst (e.2.2.map Kd.v)))) ++ [(l, .lst [])] := by
        unfold bO
        rw [List.map_append]
        rfl
      rw [e9]
      have e8 : ((l, HO.lst []) :: O).set 1 (p, HO.dT (bd (bs ++ [([Sum.inr s, Sum.inr n], l, [])]))) = (l, HO.lst []) :: ((p, HO.dT (bd (bs ++ [([Sum.inr s, Sum.inr n], l, [])]))) :: (bs.map fun e => (e.2.1, HO.lst (e.2.2.map Kd.v)))) := by
        rw [hO]
        rfl
      rw [e8] at w2q
      have hperm : ((l, HO.lst []) :: ((p, HO.dT (bd (bs ++ [([Sum.inr s, Sum.inr n], l, [])]))) :: (bs.map fun e => (e.2.1, HO.lst (e.2.2.map Kd.v))))).Perm (((p, HO.dT (bd (bs ++ [([Sum.inr s, Sum.inr n], l, [])]))) :: (bs.map fun e => (e.2.1, HO.lst (e.2.2.map Kd.v)))) ++ [(l, .lst [])]) := (List.perm_append_comm (l₁ := [(l, HO.lst [])]))
      exact ⟨(hperm.map (·.1)).nodup_iff.mp w2q.1, fun po hm => w2q.2 po (hperm.mem_iff.mpr hm)⟩
    refine hv _ G1 _ m2 (OO.wl eB3) _ fun v3 G3 H3 e3 r3 => ?_
    have r3 : v3 = Kd.v x := r3
    subst r3
    have eB4 := B.ext eB3 e3
    have w4 := OO.ext e3
    have hi : (bs ++ [([Sum.inr s, Sum.inr n], l, ([] : List Kd))])[bs.length]? = some ([Sum.inr s, Sum.inr n], l, []) := by rw [List.getElem?_append_right (Nat.le_refl _), Nat.sub_self]; rfl
    obtain ⟨p1, p2, p3⟩ := w4.at_ (bO_at (p := p) hi)
    refine ⟨l, _, _, rfl, rfl, p3, by show 0 < sizeLine; decide, ?_⟩
    have ws := w4.set (o' := .lst ([x].map Kd.v)) (bO_at (p := p) hi)
    rw [← bd_set hi [x]] at ws
    have es : (bs ++ [([Sum.inr s, Sum.inr n], l, ([] : List Kd))]).set bs.length ([Sum.inr s, Sum.inr n], l, [x]) = bs ++ [([Sum.inr s, Sum.inr n], l, [x])] := by
      rw [List.set_append_right _ _ (Nat.le_refl _), Nat.sub_self]
      rfl
    dsimp only at ws
    rw [es] at ws
    exact k2 hno l G3 _ (M.mono (e3.le (B.le eB3)) m2) (B.set p1 eB4 p2) ws
/-- one more at a key -/
structure BAdd (bs bs2 : Bes) (key : List Key) (x : Kd) : Prop where
  get : ∀ k, bget bs2 k = if k = key then bget bs k ++ [x] else bget bs k
  len : bs2.length ≤ bs.length + 1
  small : ∀ n, (∀ e ∈ bs, e.2.2.length ≤ n) → ∀ e ∈ bs2, e.2.2.length ≤ n + 1
theorem bget_cons {e : List Key × Addr × List Kd} {k : List Key} : bget (e :: bs) k = if e.1 = k then e.2.2 else bget bs k := by
  unfold bget
  rw [List.find?_cons]
  by_cases h : e.1 = k
  · rw [decide_eq_true h, if_pos h]
    rfl
  · rw [decide_eq_false h, if_neg h]
theorem badd_set : ∀ {bs : Bes} {i : Nat} {e : List Key × Addr × List Kd} {x : Kd}, bs[i]? = some e → (∀ (j : Nat) y, j < i → bs[j]? = some y → ¬ y.1 = e.1) → BAdd bs (bs.set i (e.1, e.2.1, e.2.2 ++ [x])) e.1 x
  | [], _, _, _, h, _ => by simp at h
  | a :: r, 0, e, x, h, _ => by
    have ea : a = e := by simpa using h
    subst ea
    refine ⟨fun k => ?_, by simp, fun n hn e he => ?_⟩
    · rw [List.set_cons_zero, bget_cons, bget_cons]
      by_cases q : a.1 = k
      · rw [if_pos q, if_pos q, if_pos q.symm]
      · rw [if_neg q, if_neg q, if_neg fun z => q z.symm]
    · rw [List.set_cons_zero] at he
      rcases List.mem_cons.mp he with z | z
      · rw [z, List.length_append]
        exact Nat.succ_le_succ (hn a (by simp))
      · exact Nat.le_succ_of_le (hn e (by simp [z]))
  | a :: r, i + 1, e, x, h, hm => by
    have ih := badd_set (bs := r) (i := i) (e := e) (x := x) (by simpa using h) (fun j y hj hy => hm (j + 1) y (by omega) (by simpa using hy))
    have ha : ¬ a.1 = e.1 := hm 0 a (by omega) (by simp)
    refine ⟨fun k => ?_, by simp, fun n hn e2 he => ?_⟩
    · rw [List.set_cons_succ, bget_cons, bget_cons, ih.get k]
      by_cases q : a.1 = k
      · rw [if_pos q, if_pos q, if_neg fun z => ha (q.trans z)]
      · rw [if_neg q, if_neg q]
    · rw [List.set_cons_succ] at he
      rcases List.mem_cons.mp he with z | z
      · rw [z]
        exact Nat.le_succ_of_le (hn a (by simp))
      · exact ih.small n (fun e3 h3 => hn e3 (by simp [h3])) e2 z
theorem badd_new {key : List Key} {q : Addr} (h : ∀ e ∈ bs, ¬ e.1 = key) : BAdd bs (bs ++ [(key, q, [x])]) key x := by
  refine ⟨fun k => ?_, by simp, fun n hn e he => ?_⟩
  · have e0 : bget (bs ++ [(key, q, [x])]) k = if k = key then bget bs k ++ [x] else bget bs k := by
      induction bs with
      | nil =>
        show bget [(key, q, [x])] k = _
        rw [bget_cons]
        by_cases z : k = key
        · rw [if_pos z, if_pos z.symm]
          rfl
        · rw [if_neg z, if_neg fun y => z y.symm]
      | cons a r ih =>
        have ha := h a (by simp)
        rw [List.cons_append, bget_cons, bget_cons, ih (fun e he => h e (by simp [he]))]
        by_cases z : a.1 = k
        · rw [if_pos z, if_pos z, if_neg fun y => ha (z.trans y)]
        · rw [if_neg z, if_neg z]
    exact e0
  · rcases List.mem_append.mp he with z | z
    · exact Nat.le_succ_of_le (hn e z)
    · rw [List.mem_singleton.mp z]
      exact Nat.succ_le_succ (Nat.zero_le _)
theorem st_sapp2 (hO : O = bO p bs) (ha : Ev M O σ tStr ta s) (hb : Ev M O σ tStr tb n) (hv : ∀ bs2, Ev M (bO p bs2) σ tKd te x) (hl : bs.length ≤ 1000) (hl2 : ∀ e ∈ bs, e.2.2.length ≤ 1000)
    (k : ∀ bs2, BAdd bs bs2 [.inr s, .inr n] x → St B M (bO p bs2) tz D σ) (hs : σ[i]? = some (some (.ref p)) := by rfl) :
    St B M O (tSeq (tDrop (tBM K "list" rAppend (tBM K "dict" rSetT (tVar i) (tCons (L2.tTup (tCons ta (tCons tb tNil))) (tCons (L2.tLst tNil) tNil))) (tCons te tNil))) tz) D σ :=
  st_sapp hO ha hb hv hl hl2 (fun j e he hk hm => k _ (hk ▸ badd_set he (fun j y hj hy => hk ▸ hm j y hj hy))) (fun h q => k _ (badd_new h)) hs
/-- x not in d.get((s, n), []) -/
theorem ev_bnin {k : Kd} {tx : TE} (hO : O = bO p bs) (hx : Ev M O σ tKd tx k) (ha : Ev M O σ tStr ta s) (hb : Ev M O σ tStr tb n) (hs : σ[i]? = some (some (.ref p)) := by rfl) :
    Ev M O σ tBool (tOp (rIn K true) tx (tDGet2 (tVar i) (L2.tTup (tCons ta (tCons tb tNil))) (L2.tLst tNil))) (!decide (k ∈ bget bs [.inr s, .inr n])) := fun G H m l Q q => by
  have hp0 : O[0]? = some (p, .dT (bd bs)) := by rw [hO]; rfl
  refine hx G H m l _ fun vx G0 H0 e0 r0 => ?_
  have r0 : vx = Kd.v k := r0
  subst r0
  have l0 := l.ext e0
  refine ⟨_, hs, p, rfl, .inr ⟨_, .inl (l0.at_ hp0)⟩, ?_⟩
  refine ev_tup2 ha hb (M.mono (e0.le l.le) m) l0 fun b G1 H1 e1 h1 => ?_
  refine ⟨Nat.zero_le _, fun q0 hq0 => ?_⟩
  have x2 : Ext G1 H1 G1 (upd H1 q0 (.lst [])) := .newO e1.gh hq0
  have l2 := (l0.ext e1).ext x2
  have nb : b ≠ q0 := fun z => by rw [z, hq0] at h1; cases h1
  have hbl : (upd H1 q0 (.lst [])) b = some (.tup ([Sum.inr s, Sum.inr n].map kV)) := by
    rw [upd_ne nb, h1]
    rfl
  have e012 := (e0.trans e1).trans x2
  refine ⟨_, .inr ⟨_, _, b, .inl (l2.at_ hp0), rfl, hbl, rfl⟩, ?_⟩
  rw [bd_val]
  have fin : ∀ (a : Addr) (ks : List Kd), SqL K (upd H1 q0 (.lst [])) a (ks.map Kd.v) → rIn K true (Kd.v k) (.ref a) (upd H1 q0 (.lst [])) Q ∨ True := fun _ _ _ => .inr trivial
  have step : ∀ (a : Addr) (ks : List Kd), SqL K (upd H1 q0 (.lst [])) a (ks.map Kd.v) → Q (.bl (!decide (k ∈ ks))) (upd H1 q0 (.lst [])) → rIn K true (Kd.v k) (.ref a) (upd H1 q0 (.lst [])) Q := fun a ks hsq qq => by
    refine ⟨a, ks.map Kd.v, rfl, .inl hsq, rfl, ?_, ?_⟩
    · rw [map_kd]
      exact flat_strs _
    · show Q (.bl (!inV (Kd.v k) (ks.map Kd.v))) _
      have e1 : inV (Kd.v k) (ks.map Kd.v) = decide (k ∈ ks) := by
        rw [map_kd]
        show inV (.str k.s) _ = _
        rw [inV_str]
        exact decide_eq_decide.mpr mem_kd
      rw [e1]
      exact qq
  cases hf : bs.find? (fun e => decide (e.1 = [Sum.inr s, Sum.inr n])) with
  | none =>
    refine step q0 [] (.of upd_same) (q _ _ _ e012 ?_)
    unfold bget
    rw [hf]
    rfl
  | some e3 =>
    obtain ⟨i0, hi0, _⟩ := find_ix hf
    have hat : O[i0 + 1]? = some (e3.2.1, .lst (e3.2.2.map Kd.v)) := by rw [hO]; exact bO_at hi0
    refine step e3.2.1 e3.2.2 (.of (l2.at_ hat)) (q _ _ _ e012 ?_)
    unfold bget
    rw [hf]
    rfl
end
end G3
set_option maxRecDepth 100000
set_option maxHeartbeats 4000000
/-! F7: is_dealing and what stands before it, at dealings of firsts; sorts told, fitting, held. -/
namespace G3
open PySem PySem.Spec PyProof.Rows L2
theorem hu65_of {A : Around} {k : Nat} (hr : Room k A) : A.units + 65 < cLine := by have := hr.un; omega
/-- a dealing of firsts -/
structure Val (W : Wo) (d : List (Str × Str)) : Prop where
  nd : (keys d).Nodup
  fs : ∀ x ∈ d, x.1 ∈ W.people ∧ x.2 ∈ W.first x.1
  cp : ∀ q ∈ W.places, (((d.map (·.2)).countP fun n => decide (n = q) : Nat) : Int) ≤ W.hold q
def kdP (tp : List (Str × Kd)) (p : Str) : Kd := (dget tp p).getD .paired
def fpairs (W : Wo) : List (Str × Str) := W.people.flatMap fun p => (W.first p).map fun q => (p, q)
def badPair (x : Kd × Kd) : Bool := decide (x ∈ [(Kd.loose, Kd.loose), (Kd.loose, Kd.paired), (Kd.paired, Kd.loose)])
def fitP (W : Wo) (tp tq : List (Str × Kd)) (p : Str) : Bool := !(decide (kdP tp p = .tight) && !decide (Kd.loose ∈ (W.first p).map (kdP tq))) && !(!decide (kdP tp p = .paired) && (W.first p).isEmpty)
def fitQ (W : Wo) (tp tq : List (Str × Kd)) (q : Str) : Bool := !(decide (kdP tq q = .tight) && !decide (Kd.loose ∈ ((fpairs W).filter fun x => decide (x.2 = q)).map fun x => kdP tp x.1))
def fitB (W : Wo) (tp tq : List (Str × Kd)) : Bool := (fpairs W).all (fun x => !badPair (kdP tp x.1, kdP tq x.2)) && (W.people.all (fitP W tp tq) && W.places.all (fitQ W tp tq))
def hw (W : Wo) (tq : List (Str × Kd)) (k : Kd) : Int := ((W.places.filter fun q => decide (kdP tq q = k)).map W.hold).sum
def pwg (W : Wo) (tp : List (Str × Kd)) : Int := ((W.people.filter fun p => decide (kdP tp p = .paired) && !(W.first p).isEmpty).length : Nat)
def manyF (W : Wo) (tp tq : List (Str × Kd)) : Int := pwg W tp + hw W tq .tight + (((keys tp).filter fun p => decide (kdP tp p = .tight)).length : Nat)
def looseK (tp : List (Str × Kd)) : List Str := (keys tp).filter fun p => decide (kdP tp p = .loose)
def lenAll (m : Int) (pp : List (Str × List (Str × Str))) : Bool := pp.all fun x => decide ((x.2.length : Int) = m)
def holdB (W : Wo) (tp tq : List (Str × Kd)) (d0 : List (Str × Str)) (pp pq : List (Str × List (Str × Str))) : Bool :=
  (fitB W tp tq && decide (pwg W tp = hw W tq .paired)) && (decide ((d0.length : Int) = manyF W tp tq) && ((lenAll (manyF W tp tq) pp && lenAll (manyF W tp tq) pq) &&
    (pp.all (fun x => !(dget x.2 x.1).isSome) && pq.all fun x => decide ((cntD x.2 x.1 : Int) < W.hold x.1))))
/-- sorts told, with a paper such as the law's -/
structure PreT (W : Wo) (tp tq : List (Str × Kd)) : Prop where
  kp : keys tp = W.people
  kq : keys tq = W.places
structure PreH (W : Wo) (tp tq : List (Str × Kd)) (d0 : List (Str × Str)) (pp pq : List (Str × List (Str × Str))) : Prop extends PreT W tp tq where
  ok : Wok W
  v0 : Val W d0
  kpp : keys pp = looseK tp
  kpq : keys pq = looseK tq
  vp : ∀ x ∈ pp, Val W x.2
  vq : ∀ x ∈ pq, Val W x.2
section
variable (P : Program) (w : World) (K : PySem.W.Frag) (mg : Str → Option Value) (base : Heap) (C : Addr)
abbrev P_key_faults : Prop := C8.Cal P w K mg base 6 "key_faults" (SpF (aCons (tHeld K C) (aCons (tDct tStr) aNil)) (fun i => Wok i.1 ∧ Val i.1 i.2.1) (tLst K tStr) fun _ => []) []
abbrev P_faults : Prop := C8.Cal P w K mg base 7 "faults" (SpF (aCons (tHeld K C) (aCons (tDct tStr) aNil)) (fun i => Wok i.1 ∧ Val i.1 i.2.1) (tLst K tStr) fun _ => []) []
abbrev P_is_dealing : Prop := C8.Cal P w K mg base 8 "is_dealing" (SpF (aCons (tHeld K C) (aCons (tDct tStr) aNil)) (fun i => Wok i.1 ∧ Val i.1 i.2.1) tBool fun _ => true) []
abbrev P_is_told_of : Prop := C8.Cal P w K mg base 1 "is_told_of" (SpF (aCons (tLst K tStr) (aCons (tDct tKd) aNil)) (fun i => keys i.2.1 = i.1) tBool fun _ => true) []
abbrev P_are_sorts : Prop := C8.Cal P w K mg base 2 "are_sorts" (SpF (aCons (tHeld K C) (aCons (tPair K (tDct tKd) (tDct tKd)) aNil)) (fun i => PreT i.1 i.2.1.1 i.2.1.2) tBool fun _ => true) []
abbrev P_first_pairs : Prop := C8.Cal P w K mg base 5 "first_pairs" (SpF (aCons (tHeld K C) aNil) (fun i => Wok i.1) (tLst K (tPair K tStr tStr)) fun i => fpairs i.1) []
abbrev P_sorts_fit : Prop := C8.Cal P w K mg base 6 "sorts_fit" (SpF (aCons (tHeld K C) (aCons (tDct tKd) (aCons (tDct tKd) aNil))) (fun i => Wok i.1 ∧ PreT i.1 i.2.1 i.2.2.1) tBool fun i => fitB i.1 i.2.1 i.2.2.1) []
abbrev P_holders_with : Prop := C8.Cal P w K mg base 4 "holders_with" (SpF (aCons (tHeld K C) (aCons (tDct tKd) (aCons tKd aNil))) (fun i => keys i.2.1 = i.1.places) tInt fun i => hw i.1 i.2.1 i.2.2.1) []
abbrev P_paired_with_group : Prop := C8.Cal P w K mg base 5 "paired_with_group" (SpF (aCons (tHeld K C) (aCons (tDct tKd) aNil)) (fun i => keys i.2.1 = i.1.people) tInt fun i => pwg i.1 i.2.1) []
abbrev P_is_firsts : Prop := C8.Cal P w K mg base 9 "is_firsts" (SpF (aCons (tHeld K C) (aCons (tDct tStr) (aCons tInt aNil))) (fun i => Wok i.1 ∧ Val i.1 i.2.1) tBool fun i => decide ((i.2.1.length : Int) = i.2.2.1)) []
abbrev P_are_loose_papers : Prop := C8.Cal P w K mg base 10 "are_loose_papers" (SpF (aCons (tHeld K C) (aCons (tDct tKd) (aCons (tDct (tDct tStr)) (aCons tInt aNil)))) (fun i => Wok i.1 ∧ (keys i.2.1).Nodup ∧ keys i.2.2.1 = looseK i.2.1 ∧ ∀ x ∈ i.2.2.1, Val i.1 x.2) tBool fun i => lenAll i.2.2.2.1 i.2.2.1) []
abbrev P_sorts_hold : Prop := C8.Cal P w K mg base 11 "sorts_hold" (SpF (aCons (tHeld K C) (aCons (tPair K (tDct tKd) (tDct tKd)) (aCons (tTrip K (tDct tStr) (tDct (tDct tStr)) (tDct (tDct tStr))) aNil))) (fun i => PreH i.1 i.2.1.1 i.2.1.2 i.2.2.1.1 i.2.2.1.2.1 i.2.2.1.2.2) tBool fun i => holdB i.1 i.2.1.1 i.2.1.2 i.2.2.1.1 i.2.2.1.2.1 i.2.2.1.2.2) []
end
theorem first_in {W : Wo} {p q : Str} (h : q ∈ W.first p) : (placeIn (W.groups p) q).isSome = true := by
  rw [placeIn_some]
  unfold Wo.first at h
  cases z : W.groups p with
  | nil => rw [z] at h; exact absurd h (by simp)
  | cons g r =>
    rw [z] at h
    exact decide_eq_true ⟨g, by simp, h⟩
theorem kd_get {tp : List (Str × Kd)} {p : Str} (h : p ∈ keys tp) : dget tp p = some (kdP tp p) := by
  obtain ⟨k, hk⟩ := Option.isSome_iff_exists.mp (dget_isSome.mpr h)
  unfold kdP
  rw [hk]
  rfl
theorem ev_nilTy {M : Asr} {O : List (Addr × HO)} {σ : L2.St} {K : PySem.W.Frag} {α β : Type} {t : Ty α} {u : Ty β} {te : TE} (h : Ev M O σ (tLst K t) te []) : Ev M O σ (tLst K u) te [] := fun G H m l Q q => h G H m l Q fun v G' H' e ⟨a, vs, ev, hs, fa, hz⟩ => q v G' H' e ⟨a, vs, ev, hs, by cases fa; exact .nil, hz⟩
theorem ev_inTK {M : Asr} {O : List (Addr × HO)} {σ : L2.St} {K : PySem.W.Frag} {ta tb : TE} {xs : List Kd} {k : Kd} (ha : Ev M O σ tKd ta k) (hb : Ev M O σ (tTup K tKd) tb xs) : Ev M O σ tBool (tOp (rIn K false) ta tb) (decide (k ∈ xs)) := ev_opA ha hb fun G H v v' Q l h1 ⟨a, vs, e, h, g, z⟩ q => by
  subst e
  have h1 : v = Kd.v k := h1
  subst h1
  have e2 : vs = xs.map Kd.v := g.atoms
  subst e2
  refine ⟨a, xs.map Kd.v, rfl, .inr (l.sqT h), rfl, ?_, ?_⟩
  · rw [map_kd]
    exact flat_strs _
  · show Q (.bl (inV (Kd.v k) (xs.map Kd.v))) _
    have e1 : inV (Kd.v k) (xs.map Kd.v) = decide (k ∈ xs) := by
      rw [map_kd]
      show inV (.str k.s) _ = _
      rw [inV_str]
      exact decide_eq_decide.mpr mem_kd
    rw [e1]
    exact q
theorem all_map_true {α : Type} (xs : List α) : (xs.map fun _ => true).all id = true := by
  rw [List.all_eq_true]
  intro b hb
  obtain ⟨_, _, e⟩ := List.mem_map.mp hb
  rw [← e]
  rfl
section
variable {P : Program} {w : World} {K : PySem.W.Frag} {mg : Str → Option Value} {base : Heap} {C : Addr}
abbrev s_key_faults : Stmt := top 10
abbrev N_key_faults : List Str := ["lists", "dealing", "found", "person", "place"]
theorem sc_key_faults : FnScope N_key_faults ["lists", "dealing"] (C8.fnScope s_key_faults) := ⟨rfl, rfl, rfl, by decide +kernel, rfl, by decide +kernel, by decide +kernel⟩
theorem ok_key_faults (T : Bi mg) (Dd : Dn K mg "key_faults" s_key_faults ["lists", "dealing"]) (m_is_person : P_is_person P w K mg base C) (m_is_pair : P_is_pair P w K mg base C) : P_key_faults P w K mg base C := by
  refine cal2 Dd sc_key_faults fun f cdv A outer s H E hr => ?_
  have hu := hu_of hr
  refine ⟨_, (pss_cons (ps_set (i := 2) sc_key_faults.nd rfl (Or.inl rfl) (pe_lst pa_nil)) (
    pss_cons (ps_lockM (ps_for PassesOwn.never rfl (pi_items (pv 1)) (pg_tup rfl (pgs_cons (pg_name (i := 3) sc_key_faults.nd rfl (Or.inl rfl)) (pgs_cons (pg_name (i := 4) sc_key_faults.nd rfl (Or.inl rfl)) pgs_nil)))
    (pss_cons (ps_if (pt_not (pt_val (C8.pe_mt m_is_person hr (by decide) (pv 0) (pa_cons (pv 3) pa_nil))))
      (pss_cons (ps_expr (k_bm K rfl PySem.F.plainAttrs_list PySem.F.slot_list_append PySem.F.type_list_append mt_append (pv 2) (pa_cons (pe_tup (pa_cons pe_str (pa_cons (pv 3) pa_nil))) pa_nil))) pss_nil)
      (pss_cons (ps_if (pt_not (pt_val (C8.pe_mt m_is_pair hr (by decide) (pv 0) (pa_cons (pv 3) (pa_cons (pv 4) pa_nil)))))
        (pss_cons (ps_expr (k_bm K rfl PySem.F.plainAttrs_list PySem.F.slot_list_append PySem.F.type_list_append mt_append (pv 2) (pa_cons (pe_tup (pa_cons pe_str (pa_cons (pv 3) pa_nil))) pa_nil))) pss_nil)
        pss_nil) pss_nil)) pss_nil))) (
    pss_cons (ps_ret (pv 2)) pss_nil))), ?_⟩
  rintro B D v1 v2 W d h1 h2 ⟨ok, va⟩ ret -
  dsimp only at ok va
  refine st_newL fun pf => ?_
  refine st_forI (tgP K tStr tStr 3 4) (fun i (γ : Option V × Option V) => True) (fun _ => Asr.tt) (fun _ => [(pf, .lst [])]) (fun γ => [some v1, some v2, some (.ref pf), γ.1, γ.2]) evd_var (none, none) trivial (fun _ _ => trivial) ?_ ?_
  · rintro L B' D' hret i ⟨p, q⟩ ⟨w1, w2⟩ c hx ⟨o1, o2⟩ -
    have o1 : w1 = V.str p := o1
    have o2 : w2 = V.str q := o2
    subst o1 o2
    obtain ⟨hp, hq⟩ := va.fs _ (List.mem_of_getElem? hx)
    dsimp only at hp hq
    have e1 : (rowBy W.rows p).isSome = true := row_some hp
    have e2 : (rowBy W.spots q).isSome = true := row_some (ok.ff p hp q hq)
    refine st_ifF (et_is (et_not (et_B (ev_meth ev_var (ea_cons ev_var ea_nil) trivial))) (by dsimp only; rw [e1]; rfl)) ?_
    refine st_ifF (et_is (et_not (et_B (ev_meth ev_var (ea_cons ev_var (ea_cons ev_var ea_nil)) trivial))) (by dsimp only; rw [e1, e2, first_in hq]; rfl)) ?_
    exact st_thru (st_thru (st_turn rfl (some (.str p), some (.str q)) trivial (fun _ _ => trivial)))
  · rintro L c -
    exact st_pub (pub_lA (f := V.str) (xs := []) (Nat.zero_le _)) (st_retF ret ev_var)
abbrev s_faults : Stmt := top 11
abbrev N_faults : List Str := ["lists", "thing", "found", "held", "place"]
theorem sc_faults : FnScope N_faults ["lists", "thing"] (C8.fnScope s_faults) := ⟨rfl, rfl, rfl, by decide +kernel, rfl, by decide +kernel, by decide +kernel⟩
theorem ok_faults (T : Bi mg) (Dd : Dn K mg "faults" s_faults ["lists", "thing"]) (c_key_faults : P_key_faults P w K mg base C) (m_places : P_places P w K mg base C) (m_holders : P_holders P w K mg base C) : P_faults P w K mg base C := by
  refine cal2 Dd sc_faults fun f cdv A outer s H E hr => ?_
  have hu := hu_of hr
  refine ⟨_, (pss_cons (ps_if (pt_not (pt_val (pe_callB (k_isi K) (by rfl) T.isi (by decide +kernel) (pa_cons (pv 1) (pa_cons (pe_bltn (v := .ty "dict") (u := .type "dict") (by rfl) T.dict (by decide +kernel) rfl) pa_nil)))))
    (pss_cons ps_never pss_nil)
    pss_nil) (
    pss_cons (ps_set (i := 2) sc_faults.nd rfl (Or.inl rfl) (C8.pe_c c_key_faults hr (by decide) (by rfl) (pa_cons (pv 0) (pa_cons (pv 1) pa_nil)))) (
    pss_cons (ps_if (pt_cmpR (o_neEK K hr.units0) (pv 2) (pe_lst pa_nil) (nomark _))
    (pss_cons (ps_ret (pv 2)) pss_nil)
    pss_nil) (
    pss_cons (ps_set (i := 3) sc_faults.nd rfl (Or.inr rfl) (pe_listVals (by rfl) T.list (pv 1))) (
    pss_cons (ps_ret (pe_lc (own := [("place", 4)]) (g := gName 4) (by rfl) sc_faults.nd (pi_list (C8.pe_mt0 m_places hr (by decide) (pv 0))) (blkOk_by (own := [("place", 4)]) (N := N_faults) (sc := C8.fnScope s_faults) (by decide +kernel)) (fun _ _ _ _ _ => (pg_name (i := 4) sc_faults.nd rfl (Or.inl rfl))) (fun _ _ _ _ _ => (pts_one (pt_cmpR op_gt (k_bm K rfl PySem.F.plainAttrs_list PySem.F.slot_list_count PySem.F.type_list_count (k_count K) (pv 3) (pa_cons (pv 4) pa_nil)) (C8.pe_mt m_holders hr (by decide) (pv 0) (pa_cons (pv 4) pa_nil)) (nomark _)))) (fun _ _ _ _ _ => (pe_tup (pa_cons pe_str (pa_cons (pv 4) pa_nil)))))) pss_nil))))), ?_⟩
  rintro B D v1 v2 W d h1 h2 ⟨ok, va⟩ ret -
  dsimp only at ok va
  refine st_ifF (et_is (et_not (et_B (ev_isi (b := true) ev_var ty_dct (by decide +kernel)))) rfl) (st_thru ?_)
  refine st_asg (ev_call (ea_cons ev_var (ea_cons ev_var ea_nil)) ⟨ok, va⟩) fun v2 _ => ?_
  refine st_ifF (et_is (et_test (ev_neE ev_var)) rfl) (st_thru ?_)
  refine st_asg (ev_listVals (K := K) ev_var) fun v3 _ => ?_
  refine st_retF ret (ev_nilTy (t := tPair K tStr tStr) (ev_is (ev_lcL (u := tPair K tStr tStr) (tgN tStr 4) (fun _ => false) (fun q => ("full", q)) (ev_meth ev_var ea_nil trivial) (fun L q ω hq ho => ?_) (fun L q ω hq ho h => (nomatch h))) ?_)) rfl
  · have ho : ω = V.str q := ho
    subst ho
    refine et_is (et_test (ev_gt (ev_countS ev_var ev_var) (ev_meth ev_var (ea_cons ev_var ea_nil) (row_some hq)))) ?_
    have := va.cp q hq
    exact decide_eq_false (Int.not_lt.mpr this)
  · show (List.filter _ W.places).map _ = []
    rw [List.filter_eq_nil_iff.mpr (by simp)]
    rfl
abbrev s_is_dealing : Stmt := top 12
abbrev N_is_dealing : List Str := ["lists", "thing"]
theorem sc_is_dealing : FnScope N_is_dealing ["lists", "thing"] (C8.fnScope s_is_dealing) := ⟨rfl, rfl, rfl, by decide +kernel, rfl, by decide +kernel, by decide +kernel⟩
theorem ok_is_dealing (T : Bi mg) (Dd : Dn K mg "is_dealing" s_is_dealing ["lists", "thing"]) (c_faults : P_faults P w K mg base C) : P_is_dealing P w K mg base C := by
  refine cal2 Dd sc_is_dealing fun f cdv A outer s H E hr => ?_
  have hu := hu_of hr
  refine ⟨_, (pss_cons (ps_ret (pe_and (pe_callB (k_isi K) (by rfl) T.isi (by decide +kernel) (pa_cons (pv 1) (pa_cons (pe_bltn (v := .ty "dict") (u := .type "dict") (by rfl) T.dict (by decide +kernel) rfl) pa_nil))) (pe_one (pe_cmpR (o_eqEK K hr.units0) (C8.pe_c c_faults hr (by decide) (by rfl) (pa_cons (pv 0) (pa_cons (pv 1) pa_nil))) (pe_lst pa_nil) (nomark _))))) pss_nil), ?_⟩
  rintro B D v1 v2 W d h1 h2 ⟨ok, va⟩ ret -
  exact st_retF ret (ev_is (ev_andV (a := true) (b := true) (ev_isi (b := true) ev_var ty_dct (by decide +kernel)) fun _ => ev_eqE (ev_call (ea_cons ev_var (ea_cons ev_var ea_nil)) ⟨ok, va⟩)) rfl)
abbrev s_is_told_of : Stmt := top 29
abbrev N_is_told_of : List Str := ["names", "thing", "name"]
theorem sc_is_told_of : FnScope N_is_told_of ["names", "thing"] (C8.fnScope s_is_told_of) := ⟨rfl, rfl, rfl, by decide +kernel, rfl, by decide +kernel, by decide +kernel⟩
theorem ok_is_told_of (T : Bi mg) {aW : Addr} (hW : mg "WORDS" = some (.ref aW)) (hWT : ∀ H, SqT K H aW ([Kd.loose, Kd.tight, Kd.paired].map Kd.v)) (Dd : Dn K mg "is_told_of" s_is_told_of ["names", "thing"]) : P_is_told_of P w K mg base := by
  refine cal2 Dd sc_is_told_of fun f cdv A outer s H E hr => ?_
  have hu := hu_of hr
  refine ⟨_, (pss_cons (ps_if ((pw_or (pt_not (pt_val (pe_callB (k_isi K) (by rfl) T.isi (by decide +kernel) (pa_cons (pv 1) (pa_cons (pe_bltn (v := .ty "dict") (u := .type "dict") (by rfl) T.dict (by decide +kernel) rfl) pa_nil))))) (pw_or1 (pt_cmpR op_ne (pe_callB (k_len K) (by rfl) T.len (by decide +kernel) (pa_cons (pv 1) pa_nil)) (pe_callB (k_len K) (by rfl) T.len (by decide +kernel) (pa_cons (pv 0) pa_nil)) (nomark _))))).pt
    (pss_cons (ps_ret pe_bl) pss_nil)
    pss_nil) (
    pss_cons (ps_ret (pe_callB (k_all K rfl) (by rfl) T.all (by decide +kernel) (pa_cons (pe_lc (own := [("name", 2)]) (g := gName 2) (tt := tYes) (by rfl) sc_is_told_of.nd (pi_list (pv 0)) (blkOk_by (own := [("name", 2)]) (N := N_is_told_of) (sc := C8.fnScope s_is_told_of) (by decide +kernel)) (fun _ _ _ _ _ => (pg_name (i := 2) sc_is_told_of.nd rfl (Or.inl rfl))) (fun _ _ _ _ _ => pts_nil) (fun _ _ _ _ _ => (pe_and (pe_cmp (pc_din hu (pv 2) (pv 1)) rfl) (pe_one (pe_cmpR (o_in K) (pe_dget hu (pv 1) (pv 2) (fun _ _ => rfl)) (pe_glob (v := .ref aW) (by rfl) hW rfl) rfl))))) pa_nil))) pss_nil)), ?_⟩
  rintro B D v1 v2 names tp h1 h2 hk ret -
  have hk : keys tp = names := hk
  refine st_ifF (et_is (et_or (b := false) (et_not (et_B (ev_isi (b := true) ev_var ty_dct (by decide +kernel)))) fun _ => et_is (et_test (ev_neI (ev_lenD ev_var) (ev_lenL ev_var))) ?_) rfl) (st_thru ?_)
  · rw [← hk, keys_len, decide_eq_true rfl]
    rfl
  refine st_retF ret (ev_is (ev_all (ev_mapL (u := tBool) (tgN tStr 2) (fun _ => true) ev_var fun L n ω hn ho => ?_)) (all_map_true names)) rfl
  have ho : ω = V.str n := ho
  subst ho
  have hn : n ∈ keys tp := by rw [hk]; exact hn
  refine ev_is (ev_andV (a := true) (b := true) (ev_is (ev_din (k := n) ev_var ev_var) (dget_isSome.mpr hn)) fun _ => ?_) rfl
  refine ev_is (ev_inTK (k := kdP tp n) (xs := [Kd.loose, Kd.tight, Kd.paired]) (ev_dget (k := n) ev_var ev_var (kd_get hn)) (ev_c fun G => ⟨aW, _, rfl, hWT G, Fa.of_atoms _, by decide⟩)) (decide_eq_true ?_)
  cases kdP tp n <;> simp
abbrev s_are_sorts : Stmt := top 30
abbrev N_are_sorts : List Str := ["lists", "thing"]
theorem sc_are_sorts : FnScope N_are_sorts ["lists", "thing"] (C8.fnScope s_are_sorts) := ⟨rfl, rfl, rfl, by decide +kernel, rfl, by decide +kernel, by decide +kernel⟩
theorem ok_are_sorts (T : Bi mg) (Dd : Dn K mg "are_sorts" s_are_sorts ["lists", "thing"]) (c_is_told_of : P_is_told_of P w K mg base) (m_people : P_people P w K mg base C) (m_places : P_places P w K mg base C) : P_are_sorts P w K mg base C := by
  refine cal2 Dd sc_are_sorts fun f cdv A outer s H E hr => ?_
  have hu := hu_of hr
  refine ⟨_, (pss_cons (ps_if ((pw_or (pt_not (pt_val (pe_callB (k_isi K) (by rfl) T.isi (by decide +kernel) (pa_cons (pv 1) (pa_cons (pe_bltn (v := .ty "tuple") (u := .type "tuple") (by rfl) T.tuple (by decide +kernel) rfl) pa_nil))))) (pw_or1 (pt_cmpR op_ne (pe_callB (k_len K) (by rfl) T.len (by decide +kernel) (pa_cons (pv 1) pa_nil)) pe_int (nomark _))))).pt
    (pss_cons (ps_ret pe_bl) pss_nil)
    pss_nil) (
    pss_cons (ps_ret (pe_and (C8.pe_c c_is_told_of hr (by decide) (by rfl) (pa_cons (C8.pe_mt0 m_people hr (by decide) (pv 0)) (pa_cons (pe_ix (ixT K) (pv 1) pe_int (fun _ _ => rfl)) pa_nil))) (pe_one (C8.pe_c c_is_told_of hr (by decide) (by rfl) (pa_cons (C8.pe_mt0 m_places hr (by decide) (pv 0)) (pa_cons (pe_ix (ixT K) (pv 1) pe_int (fun _ _ => rfl)) pa_nil)))))) pss_nil)), ?_⟩
  rintro B D v1 v2 W t h1 h2 pre ret -
  have pre : PreT W t.1 t.2 := pre
  refine st_ifF (et_is (et_or (b := false) (et_not (et_B (ev_isi (b := true) ev_var ty_pair (by decide +kernel)))) fun _ => et_is (et_test (ev_neI (ev_len2 ev_var) ev_int)) rfl) rfl) (st_thru ?_)
  exact st_retF ret (ev_is (ev_andV (a := true) (b := true) (ev_call (ea_cons (ev_meth ev_var ea_nil trivial) (ea_cons (ev_fst ev_var) ea_nil)) pre.kp) fun _ => ev_call (ea_cons (ev_meth ev_var ea_nil trivial) (ea_cons (ev_snd ev_var) ea_nil)) pre.kq) rfl)
abbrev s_first_pairs : Stmt := top 31
abbrev N_first_pairs : List Str := ["lists", "found", "person", "place"]
theorem sc_first_pairs : FnScope N_first_pairs ["lists"] (C8.fnScope s_first_pairs) := ⟨rfl, rfl, rfl, by decide +kernel, rfl, by decide +kernel, by decide +kernel⟩
theorem ok_first_pairs (T : Bi mg) (Dd : Dn K mg "first_pairs" s_first_pairs ["lists"]) (m_people : P_people P w K mg base C) (c_first_group : P_first_group P w K mg base C) : P_first_pairs P w K mg base C := by
  refine cal1 Dd sc_first_pairs fun f cdv A outer s H E hr => ?_
  have hu := hu_of hr
  refine ⟨_, (pss_cons (ps_set (i := 1) sc_first_pairs.nd rfl (Or.inl rfl) (pe_lst pa_nil)) (
    pss_cons (ps_for PassesOwn.never rfl (pi_list (C8.pe_mt0 m_people hr (by decide) (pv 0))) (pg_name (i := 2) sc_first_pairs.nd rfl (Or.inr rfl))
    (pss_cons (ps_expr (k_bm K rfl PySem.F.plainAttrs_list PySem.F.slot_list_extend PySem.F.type_list_extend mt_extend (pv 1) (pa_cons (pe_lc (own := [("place", 3)]) (g := gName 3) (tt := tYes) (by rfl) sc_first_pairs.nd (pi_list (C8.pe_c c_first_group hr (by decide) (by rfl) (pa_cons (pv 0) (pa_cons (pv 2) pa_nil)))) (blkOk_by (own := [("place", 3)]) (N := N_first_pairs) (sc := C8.fnScope s_first_pairs) (by decide +kernel)) (fun _ _ _ _ _ => (pg_name (i := 3) sc_first_pairs.nd rfl (Or.inl rfl))) (fun _ _ _ _ _ => pts_nil) (fun _ _ _ _ _ => (pe_tup (pa_cons (pv 2) (pa_cons (pv 3) pa_nil))))) pa_nil))) pss_nil)) (
    pss_cons (ps_ret (pv 1)) pss_nil))), ?_⟩
  rintro B D v1 W h1 ok ret -
  have ok : Wok W := ok
  have hpl := ok.pl
  refine st_newL fun pf => ?_
  refine st_forL (tgN tStr 2) (fun i (γ : Option V × List V × List (Str × Str)) => γ.2.2 = ((W.people.take i).flatMap fun p => (W.first p).map fun q => (p, q)) ∧ γ.2.1.length = γ.2.2.length ∧ γ.2.2.length ≤ 10 * i) (fun γ => itsA (tPair K tStr tStr) γ.2.1 γ.2.2) (fun γ => [(pf, .lst γ.2.1)]) (fun γ => [some v1, some (.ref pf), γ.1, none])
    (ev_meth ev_var ea_nil trivial) (none, [], []) ⟨rfl, rfl, Nat.zero_le _⟩ (fun _ _ => .nil) ?_ ?_
  · rintro L i p ω ⟨o, vs, c⟩ hx ho ⟨hc, hv, hl⟩
    have ho : ω = V.str p := ho
    subst ho
    dsimp only at hc hv hl
    have hp : p ∈ W.people := List.mem_of_getElem? hx
    have hi : i < W.people.length := (List.getElem?_eq_some_iff.mp hx).1
    have hfl : (W.first p).length ≤ 10 := Nat.le_trans (nd_len (ok.fn p hp) (ok.ff p hp)) ok.ql
    have e1 : W.people.take (i + 1) = W.people.take i ++ [p] := by rw [List.take_add_one, hx]; rfl
    refine st_extF (t := tPair K tStr tStr) (xs := c) (j := 0) (ys := (W.first p).map fun q => (p, q)) rfl ?_ (ev_is (ev_lcLF (u := tPair K tStr tStr) (tgN tStr 3) (fun _ => true) (fun q => (p, q)) (ev_call (ea_cons ev_var (ea_cons ev_var ea_nil)) (row_some hp)) (fun _ _ _ _ _ => et_yes) (fun L q ω hq ho _ => ?_)) (by rw [filter_yes])) fun ws hws => ?_
    · have : (1000 : Nat) ≤ sizeLine := by decide
      show vs.length + ((W.first p).map fun q => (p, q)).length ≤ sizeLine
      rw [List.length_map]
      omega
    · have ho : ω = V.str q := ho
      subst ho
      exact ev_pair ev_var ev_var
    · refine st_turn rfl (some (.str p), vs ++ ws, c ++ (W.first p).map fun q => (p, q)) ⟨?_, ?_, ?_⟩ (fun G m => m.2)
      · show _ = _
        rw [e1, List.flatMap_append, hc]
        simp
      · rw [List.length_append, List.length_append, hv, hws]
      · rw [List.length_append, List.length_map]
        omega
  · rintro L ⟨o, vs, c⟩ ⟨hc, hv, hl⟩
    dsimp only at hc hv hl
    rw [List.take_of_length_le (Nat.le_refl _)] at hc
    have hpl2 : W.people.length ≤ 10 := hpl
    refine st_pub (x := c) (t := tLst K (tPair K tStr tStr)) (pub_lK (by omega)) (st_retF ret ev_var hc)
abbrev s_holders_with : Stmt := top 33
abbrev N_holders_with : List Str := ["lists", "places", "word", "place"]
theorem sc_holders_with : FnScope N_holders_with ["lists", "places", "word"] (C8.fnScope s_holders_with) := ⟨rfl, rfl, rfl, by decide +kernel, rfl, by decide +kernel, by decide +kernel⟩
theorem ok_holders_with (T : Bi mg) (Dd : Dn K mg "holders_with" s_holders_with ["lists", "places", "word"]) (m_places : P_places P w K mg base C) (m_holders : P_holders P w K mg base C) : P_holders_with P w K mg base C := by
  refine cal3 Dd sc_holders_with fun f cdv A outer s H E hr => ?_
  have hu := hu_of hr
  refine ⟨_, (pss_cons (ps_ret (pe_callB (k_sum K rfl) (by rfl) T.sum (by decide +kernel) (pa_cons (pe_lc (own := [("place", 3)]) (g := gName 3) (by rfl) sc_holders_with.nd (pi_list (C8.pe_mt0 m_places hr (by decide) (pv 0))) (blkOk_by (own := [("place", 3)]) (N := N_holders_with) (sc := C8.fnScope s_holders_with) (by decide +kernel)) (fun _ _ _ _ _ => (pg_name (i := 3) sc_holders_with.nd rfl (Or.inl rfl))) (fun _ _ _ _ _ => (pts_one (pt_cmpR op_eq (pe_dget hu (pv 1) (pv 3) (fun _ _ => rfl)) (pv 2) (nomark _)))) (fun _ _ _ _ _ => (C8.pe_mt m_holders hr (by decide) (pv 0) (pa_cons (pv 3) pa_nil)))) pa_nil))) pss_nil), ?_⟩
  rintro B D v1 v2 v3 W tq k h1 h2 rfl hk ret -
  have hk : keys tq = W.places := hk
  refine st_retF ret (ev_sum (ev_lcL (u := tInt) (tgN tStr 3) (fun q => decide (kdP tq q = k)) W.hold (ev_meth ev_var ea_nil trivial) (fun L q ω hq ho => ?_) (fun L q ω hq ho _ => ?_))) rfl
  · have ho : ω = V.str q := ho
    subst ho
    exact et_test (ev_eqK (ev_dget (k := q) ev_var ev_var (kd_get (by rw [hk]; exact hq))) ev_var)
  · have ho : ω = V.str q := ho
    subst ho
    exact ev_meth ev_var (ea_cons ev_var ea_nil) (row_some hq)
abbrev s_paired_with_group : Stmt := top 34
abbrev N_paired_with_group : List Str := ["lists", "people", "one"]
theorem sc_paired_with_group : FnScope N_paired_with_group ["lists", "people"] (C8.fnScope s_paired_with_group) := ⟨rfl, rfl, rfl, by decide +kernel, rfl, by decide +kernel, by decide +kernel⟩
theorem ok_paired_with_group (T : Bi mg) (Dd : Dn K mg "paired_with_group" s_paired_with_group ["lists", "people"]) (m_people : P_people P w K mg base C) (c_first_group : P_first_group P w K mg base C) : P_paired_with_group P w K mg base C := by
  refine cal2 Dd sc_paired_with_group fun f cdv A outer s H E hr => ?_
  have hu := hu_of hr
  refine ⟨_, (pss_cons (ps_ret (pe_callB (k_len K) (by rfl) T.len (by decide +kernel) (pa_cons (pe_lc (own := [("one", 2)]) (g := gName 2) (by rfl) sc_paired_with_group.nd (pi_list (C8.pe_mt0 m_people hr (by decide) (pv 0))) (blkOk_by (own := [("one", 2)]) (N := N_paired_with_group) (sc := C8.fnScope s_paired_with_group) (by decide +kernel)) (fun _ _ _ _ _ => (pg_name (i := 2) sc_paired_with_group.nd rfl (Or.inl rfl))) (fun _ _ _ _ _ => (pts_one ((pw_and (pt_cmpR op_eq (pe_dget hu (pv 1) (pv 2) (fun _ _ => rfl)) pe_str (nomark _)) (pw_and1 (pt_cmpR (o_neEK K hr.units0) (C8.pe_c c_first_group hr (by decide) (by rfl) (pa_cons (pv 0) (pa_cons (pv 2) pa_nil))) (pe_lst pa_nil) (nomark _))))).pt)) (fun _ _ _ _ _ => (pv 2))) pa_nil))) pss_nil), ?_⟩
  rintro B D v1 v2 W tp h1 h2 hk ret -
  have hk : keys tp = W.people := hk
  refine st_retF ret (ev_lenL (ev_lcL (u := tStr) (tgN tStr 2) (fun p => decide (kdP tp p = .paired) && !(W.first p).isEmpty) id (ev_meth ev_var ea_nil trivial) (fun L p ω hp ho => ?_) (fun L p ω hp ho _ => ?_))) ?_
  · have ho : ω = V.str p := ho
    subst ho
    exact et_and (et_test (ev_eqK (ev_dget (k := p) ev_var ev_var (kd_get (by rw [hk]; exact hp))) ev_kd)) fun _ => et_test (ev_neE (ev_call (ea_cons ev_var (ea_cons ev_var ea_nil)) (row_some hp)))
  · have ho : ω = V.str p := ho
    subst ho
    exact ev_var
  · rw [List.map_id]
    rfl
abbrev s_is_firsts : Stmt := top 35
abbrev N_is_firsts : List Str := ["lists", "thing", "many", "person", "place"]
theorem sc_is_firsts : FnScope N_is_firsts ["lists", "thing", "many"] (C8.fnScope s_is_firsts) := ⟨rfl, rfl, rfl, by decide +kernel, rfl, by decide +kernel, by decide +kernel⟩
theorem ok_is_firsts (T : Bi mg) (Dd : Dn K mg "is_firsts" s_is_firsts ["lists", "thing", "many"]) (c_is_dealing : P_is_dealing P w K mg base C) (c_first_group : P_first_group P w K mg base C) : P_is_firsts P w K mg base C := by
  refine cal3 Dd sc_is_firsts fun f cdv A outer s H E hr => ?_
  have hu := hu_of hr
  refine ⟨_, (pss_cons (ps_if ((pw_or (pt_not (pt_val (C8.pe_c c_is_dealing hr (by decide) (by rfl) (pa_cons (pv 0) (pa_cons (pv 1) pa_nil))))) (pw_or1 (pt_cmpR op_ne (pe_callB (k_len K) (by rfl) T.len (by decide +kernel) (pa_cons (pv 1) pa_nil)) (pv 2) (nomark _))))).pt
    (pss_cons (ps_ret pe_bl) pss_nil)
    pss_nil) (
    pss_cons (ps_ret (pe_callB (k_all K rfl) (by rfl) T.all (by decide +kernel) (pa_cons (pe_lockM (pe_lc (own := [("person", 3), ("place", 4)]) (g := gTup K 2 (gCons (gName 3) (gCons (gName 4) (gNil)))) (tt := tYes) (by rfl) sc_is_firsts.nd (pi_items (pv 1)) (blkOk_by (own := [("person", 3), ("place", 4)]) (N := N_is_firsts) (sc := C8.fnScope s_is_firsts) (by decide +kernel)) (fun _ _ _ _ _ => (pg_tup (by rfl) (pgs_cons (pg_name (i := 3) sc_is_firsts.nd rfl (Or.inl rfl)) (pgs_cons (pg_name (i := 4) sc_is_firsts.nd rfl (Or.inl rfl)) pgs_nil)))) (fun _ _ _ _ _ => pts_nil) (fun _ _ _ _ _ => (pe_cmpR (o_in K) (pv 4) (C8.pe_c c_first_group hr (by decide) (by rfl) (pa_cons (pv 0) (pa_cons (pv 3) pa_nil))) rfl)))) pa_nil))) pss_nil)), ?_⟩
  rintro B D v1 v2 v3 W d m h1 h2 rfl ⟨ok, va⟩ ret -
  dsimp only at ok va
  refine st_if (et_is (et_or (b := !decide ((d.length : Int) = m)) (et_not (et_B (ev_call (ea_cons ev_var (ea_cons ev_var ea_nil)) ⟨ok, va⟩))) fun _ => et_test (ev_neI (ev_lenD ev_var) ev_var)) (Bool.false_or _)) (fun hb => ?_) (fun hb => ?_)
  · refine st_retF ret ev_bl ?_
    rw [Bool.not_eq_true'] at hb
    exact hb.symm
  · refine st_thru (st_retF ret (ev_is (ev_all (ev_is (ev_lcI (u := tBool) (tgP K tStr tStr 3 4) (fun _ => true) (fun _ => true) evd_var (fun _ _ _ _ _ => et_yes) (fun L x ω hx ho _ => ?_)) (by rw [filter_yes]))) (all_map_true d)) ?_)
    · obtain ⟨p, q⟩ := x
      obtain ⟨w1, w2⟩ := ω
      obtain ⟨o1, o2⟩ := ho
      have o1 : w1 = V.str p := o1
      have o2 : w2 = V.str q := o2
      subst o1 o2
      obtain ⟨hp, hq⟩ := va.fs _ hx
      exact ev_is (ev_inL (xs := W.first p) (k := q) ev_var (ev_call (ea_cons ev_var (ea_cons ev_var ea_nil)) (row_some hp))) (decide_eq_true hq)
    · rw [Bool.not_eq_false'] at hb
      exact hb.symm
end
end G3
set_option maxRecDepth 100000
set_option maxHeartbeats 4000000
/-! F8: sorts_fit, are_loose_papers, sorts_hold. -/
namespace G3
open PySem PySem.Spec PyProof.Rows L2
theorem fpairs_len {W : Wo} (ok : Wok W) : (fpairs W).length ≤ 100 := by
  have h : ∀ (ps : List Str), (∀ p ∈ ps, p ∈ W.people) → (ps.flatMap fun p => (W.first p).map fun q => (p, q)).length ≤ 10 * ps.length := by
    intro ps
    induction ps with
    | nil => intro _; exact Nat.zero_le _
    | cons a r ih =>
      intro hp
      rw [List.flatMap_cons, List.length_append, List.length_map, List.length_cons]
      have h1 := ih fun p hp2 => hp p (by simp [hp2])
      have h2 : (W.first a).length ≤ 10 := Nat.le_trans (nd_len (ok.fn a (hp a (by simp))) (ok.ff a (hp a (by simp)))) ok.ql
      omega
  have := h W.people fun _ h => h
  have := ok.pl
  unfold fpairs
  omega
theorem fpairs_mem {W : Wo} {x : Str × Str} : x ∈ fpairs W ↔ x.1 ∈ W.people ∧ x.2 ∈ W.first x.1 := by
  unfold fpairs
  rw [List.mem_flatMap]
  constructor
  · rintro ⟨p, hp, h⟩
    obtain ⟨q, hq, e⟩ := List.mem_map.mp h
    subst e
    exact ⟨hp, hq⟩
  · rintro ⟨hp, hq⟩
    exact ⟨x.1, hp, List.mem_map.mpr ⟨x.2, hq, rfl⟩⟩
theorem fpairs_at {W : Wo} (ok : Wok W) {p : Str} (hp : p ∈ W.people) : (fpairs W).filter (fun x => decide (x.1 = p)) = (W.first p).map fun q => (p, q) := by
  unfold fpairs
  have hn := ok.pn
  revert hp hn
  generalize W.people = L
  intro hp hn
  induction L with
  | nil => exact absurd hp (by simp)
  | cons a r ih =>
    rw [List.flatMap_cons, List.filter_append]
    obtain ⟨h1, h2⟩ := List.nodup_cons.mp hn
    by_cases e : a = p
    · subst e
      have e1 : ((W.first a).map fun q => (a, q)).filter (fun x => decide (x.1 = a)) = (W.first a).map fun q => (a, q) := List.filter_eq_self.mpr fun x hx => by
        obtain ⟨q, _, e⟩ := List.mem_map.mp hx
        rw [← e]
        exact decide_eq_true rfl
      have e2 : (r.flatMap fun p => (W.first p).map fun q => (p, q)).filter (fun x => decide (x.1 = a)) = [] := List.filter_eq_nil_iff.mpr fun x hx => by
        obtain ⟨p, hp, h⟩ := List.mem_flatMap.mp hx
        obtain ⟨q, _, e⟩ := List.mem_map.mp h
        rw [← e]
        simp only [decide_eq_true_eq]
        intro z
        exact h1 (z ▸ hp)
      rw [e1, e2, List.append_nil]
    · have e1 : ((W.first a).map fun q => (a, q)).filter (fun x => decide (x.1 = p)) = [] := List.filter_eq_nil_iff.mpr fun x hx => by
        obtain ⟨q, _, e2⟩ := List.mem_map.mp hx
        rw [← e2]
        simp only [decide_eq_true_eq]
        exact e
      rw [e1, List.nil_append]
      exact ih (by
        rcases List.mem_cons.mp hp with z | z
        · exact absurd z.symm e
        · exact z) h2
/-- what stands beside, after some pairs -/
structure BI (tp tq : List (Str × Kd)) (L : List (Str × Str)) (bs : Bes) : Prop where
  gp : ∀ p, bget bs [.inr "person", .inr p] = (L.filter fun x => decide (x.1 = p)).map fun x => kdP tq x.2
  gq : ∀ q, bget bs [.inr "place", .inr q] = (L.filter fun x => decide (x.2 = q)).map fun x => kdP tp x.1
  len : bs.length ≤ 2 * L.length
  small : ∀ e ∈ bs, e.2.2.length ≤ 2 * L.length
theorem key_pp {p q : Str} : ([Sum.inr ("person" : Str), Sum.inr p] : List Key) = [.inr "person", .inr q] ↔ p = q := ⟨fun h => by injection h with _ h; injection h with h; injection h, fun h => by rw [h]⟩
theorem key_qq {p q : Str} : ([Sum.inr ("place" : Str), Sum.inr p] : List Key) = [.inr "place", .inr q] ↔ p = q := ⟨fun h => by injection h with _ h; injection h with h; injection h, fun h => by rw [h]⟩
theorem key_pq {p q : Str} : ¬ ([Sum.inr ("person" : Str), Sum.inr p] : List Key) = [.inr "place", .inr q] := fun h => by
  injection h with h _
  injection h with h
  exact absurd h (by decide +kernel)
theorem BI.step {tp tq : List (Str × Kd)} {L : List (Str × Str)} {bs bs1 bs2 : Bes} {p q : Str} (h : BI tp tq L bs) (h1 : BAdd bs bs1 [.inr "person", .inr p] (kdP tq q)) (h2 : BAdd bs1 bs2 [.inr "place", .inr q] (kdP tp p)) : BI tp tq (L ++ [(p, q)]) bs2 := by
  refine ⟨fun p' => ?_, fun q' => ?_, ?_, fun e he => ?_⟩
  · rw [h2.get, if_neg key_pq, h1.get, List.filter_append, List.map_append, ← h.gp]
    by_cases e : p' = p
    · rw [if_pos (key_pp.mpr e), List.filter_cons, if_pos (by simp [e])]
      rfl
    · rw [if_neg (fun z => e (key_pp.mp z)), List.filter_cons, if_neg (by simp; exact fun z => e z.symm)]
      simp
  · have e9 : ¬ ([Sum.inr ("place" : Str), Sum.inr q'] : List Key) = [.inr "person", .inr p] := fun z => key_pq z.symm
    rw [h2.get, h1.get, if_neg e9, List.filter_append, List.map_append, ← h.gq]
    by_cases e : q' = q
    · rw [if_pos (key_qq.mpr e), List.filter_cons, if_pos (by simp [e])]
      rfl
    · rw [if_neg (fun z => e (key_qq.mp z)), List.filter_cons, if_neg (by simp; exact fun z => e z.symm)]
      simp
  · have := h.len
    have := h1.len
    have := h2.len
    rw [List.length_append, List.length_singleton]
    omega
  · have := h2.small _ (h1.small _ h.small) e he
    rw [List.length_append, List.length_singleton]
    omega
theorem all_take_snoc {α : Type} {f : α → Bool} {xs : List α} {i : Nat} {x : α} (hx : xs[i]? = some x) (h : (xs.take i).all f = true) (hf : f x = true) : (xs.take (i + 1)).all f = true := by
  rw [List.take_add_one, hx, List.all_append, h]
  simp [hf]
theorem all_false {α : Type} {f : α → Bool} {xs : List α} {x : α} (hx : x ∈ xs) (hf : f x = false) : xs.all f = false := by
  rw [Bool.eq_false_iff]
  intro h
  have := List.all_eq_true.mp h x hx
  rw [hf] at this
  cases this
theorem bl_to {α : Type} (n : Nat) (h : n ≤ 100) : 2 * n ≤ 1000 := by omega
section
variable {P : Program} {w : World} {K : PySem.W.Frag} {mg : Str → Option Value} {base : Heap} {C : Addr}
abbrev s_sorts_fit : Stmt := top 32
abbrev N_sorts_fit : List Str := ["lists", "people", "places", "beside", "person", "place", "sides"]
theorem sc_sorts_fit : FnScope N_sorts_fit ["lists", "people", "places"] (C8.fnScope s_sorts_fit) := ⟨rfl, rfl, rfl, by decide +kernel, rfl, by decide +kernel, by decide +kernel⟩
theorem ok_sorts_fit (T : Bi mg) (Dd : Dn K mg "sorts_fit" s_sorts_fit ["lists", "people", "places"]) (c_first_pairs : P_first_pairs P w K mg base C) (m_people : P_people P w K mg base C) (m_places : P_places P w K mg base C) (c_first_group : P_first_group P w K mg base C) : P_sorts_fit P w K mg base C := by
  refine cal3 Dd sc_sorts_fit fun f cdv A outer s H E hr => ?_
  have hu := hu_of hr
  have hu65 := hu65_of hr
  refine ⟨_, (pss_cons (ps_set (i := 3) sc_sorts_fit.nd rfl (Or.inl rfl) pe_dnewT) (
    pss_cons (ps_for PassesOwn.never rfl (pi_list (C8.pe_c c_first_pairs hr (by decide) (by rfl) (pa_cons (pv 0) pa_nil))) (pg_tup rfl (pgs_cons (pg_name (i := 4) sc_sorts_fit.nd rfl (Or.inl rfl)) (pgs_cons (pg_name (i := 5) sc_sorts_fit.nd rfl (Or.inl rfl)) pgs_nil)))
    (pss_cons (ps_set (i := 6) sc_sorts_fit.nd rfl (Or.inl rfl) (pe_tup (pa_cons (pe_dget hu (pv 1) (pv 4) (fun _ _ => rfl)) (pa_cons (pe_dget hu (pv 2) (pv 5) (fun _ _ => rfl)) pa_nil)))) (
      pss_cons (ps_if (pt_cmpR (o_inDT K hu65) (pv 6) (pe_tup (pa_cons (pe_tup (pa_cons pe_str (pa_cons pe_str pa_nil))) (pa_cons (pe_tup (pa_cons pe_str (pa_cons pe_str pa_nil))) (pa_cons (pe_tup (pa_cons pe_str (pa_cons pe_str pa_nil))) pa_nil)))) rfl)
      (pss_cons (ps_ret pe_bl) pss_nil)
      pss_nil) (
      pss_cons (ps_expr (k_bm K rfl PySem.F.plainAttrs_list PySem.F.slot_list_append PySem.F.type_list_append mt_append (k_bm K rfl PySem.F.plainAttrs_dict PySem.F.slot_dict_setdefault PySem.F.type_dict_setdefault (mt_setT hu) (pv 3) (pa_cons (pe_tup (pa_cons pe_str (pa_cons (pv 4) pa_nil))) (pa_cons (pe_lst pa_nil) pa_nil))) (pa_cons (pe_dget hu (pv 2) (pv 5) (fun _ _ => rfl)) pa_nil))) (
      pss_cons (ps_expr (k_bm K rfl PySem.F.plainAttrs_list PySem.F.slot_list_append PySem.F.type_list_append mt_append (k_bm K rfl PySem.F.plainAttrs_dict PySem.F.slot_dict_setdefault PySem.F.type_dict_setdefault (mt_setT hu) (pv 3) (pa_cons (pe_tup (pa_cons pe_str (pa_cons (pv 5) pa_nil))) (pa_cons (pe_lst pa_nil) pa_nil))) (pa_cons (pe_dget hu (pv 1) (pv 4) (fun _ _ => rfl)) pa_nil))) pss_nil))))) (
    pss_cons (ps_for PassesOwn.never rfl (pi_list (C8.pe_mt0 m_people hr (by decide) (pv 0))) (pg_name (i := 4) sc_sorts_fit.nd rfl (Or.inl rfl))
    (pss_cons (ps_if ((pw_and (pt_cmpR op_eq (pe_dget hu (pv 1) (pv 4) (fun _ _ => rfl)) pe_str (nomark _)) (pw_and1 (pt_cmpR (o_nin K) pe_str (pe_dget2 hu (pv 3) (pe_tup (pa_cons pe_str (pa_cons (pv 4) pa_nil))) (pe_lst pa_nil) ⟨rfl, rfl, rfl, rfl⟩) rfl)))).pt
      (pss_cons (ps_ret pe_bl) pss_nil)
      pss_nil) (
      pss_cons (ps_if ((pw_and (pt_cmpR op_ne (pe_dget hu (pv 1) (pv 4) (fun _ _ => rfl)) pe_str (nomark _)) (pw_and1 (pt_cmpR (o_eqEK K hr.units0) (C8.pe_c c_first_group hr (by decide) (by rfl) (pa_cons (pv 0) (pa_cons (pv 4) pa_nil))) (pe_lst pa_nil) (nomark _))))).pt
      (pss_cons (ps_ret pe_bl) pss_nil)
      pss_nil) pss_nil))) (
    pss_cons (ps_for PassesOwn.never rfl (pi_list (C8.pe_mt0 m_places hr (by decide) (pv 0))) (pg_name (i := 5) sc_sorts_fit.nd rfl (Or.inl rfl))
    (pss_cons (ps_if ((pw_and (pt_cmpR op_eq (pe_dget hu (pv 2) (pv 5) (fun _ _ => rfl)) pe_str (nomark _)) (pw_and1 (pt_cmpR (o_nin K) pe_str (pe_dget2 hu (pv 3) (pe_tup (pa_cons pe_str (pa_cons (pv 5) pa_nil))) (pe_lst pa_nil) ⟨rfl, rfl, rfl, rfl⟩) rfl)))).pt
      (pss_cons (ps_ret pe_bl) pss_nil)
      pss_nil) pss_nil)) (
    pss_cons (ps_ret pe_bl) pss_nil))))), ?_⟩
  rintro B D v1 v2 v3 W tp tq h1 h2 h3 ⟨ok, pre⟩ ret -
  have ok : Wok W := ok
  have pre : PreT W tp tq := pre
  refine st_newT fun pb => ?_
  refine st_forL (tgP K tStr tStr 4 5) (fun i (γ : Bes × Option V × Option V × Option V) => BI tp tq ((fpairs W).take i) γ.1 ∧ ((fpairs W).take i).all (fun x => !badPair (kdP tp x.1, kdP tq x.2)) = true) (fun _ => Asr.tt) (fun γ => bO pb γ.1)
    (fun γ => [some v1, some v2, some v3, some (.ref pb), γ.2.1, γ.2.2.1, γ.2.2.2]) (ev_call (ea_cons ev_var ea_nil) ok) ([], none, none, none) ⟨⟨fun _ => rfl, fun _ => rfl, Nat.zero_le _, fun e he => absurd he (by simp)⟩, rfl⟩ (fun _ _ => trivial) ?_ ?_
  · rintro L i ⟨p, q⟩ ⟨w1, w2⟩ ⟨bs, o4, o5, o6⟩ hx ⟨o1, o2⟩ ⟨hB, hA⟩
    have o1 : w1 = V.str p := o1
    have o2 : w2 = V.str q := o2
    subst o1 o2
    dsimp only at hB hA ⊢
    obtain ⟨hp, hq⟩ := fpairs_mem.mp (List.mem_of_getElem? hx)
    dsimp only at hp hq
    have hgp : dget tp p = some (kdP tp p) := kd_get (by rw [pre.kp]; exact hp)
    have hgq : dget tq q = some (kdP tq q) := kd_get (by rw [pre.kq]; exact ok.ff p hp q hq)
    have e1 : (fpairs W).take (i + 1) = (fpairs W).take i ++ [(p, q)] := by rw [List.take_add_one, hx]; rfl
    have hlt : ((fpairs W).take i).length ≤ 100 := Nat.le_trans (by rw [List.length_take]; exact Nat.min_le_right _ _) (fpairs_len ok)
    refine st_asg (ev_pair (K := K) (ev_dget (k := p) ev_var ev_var hgp) (ev_dget (k := q) ev_var ev_var hgq)) fun v6 _ => ?_
    refine st_if (et_test (ev_inKP (xs := [(Kd.loose, Kd.loose), (Kd.loose, Kd.paired), (Kd.paired, Kd.loose)]) ev_var (ev_tupD (exs_cons (ev_pair ev_kd ev_kd) (exs_cons (ev_pair ev_kd ev_kd) (exs_cons (ev_pair ev_kd ev_kd) exs_nil)))) (by decide))) (fun hb => ?_) (fun hb => ?_)
    · refine st_retF ret ev_bl ?_
      have : badPair (kdP tp p, kdP tq q) = true := hb
      show false = fitB W tp tq
      unfold fitB
      rw [all_false (x := (p, q)) (List.mem_of_getElem? hx) (by rw [this]; rfl), Bool.false_and]
    · refine st_thru ?_
      refine st_sapp2 (bs := bs) rfl ev_str ev_var (fun _ => ev_dget (k := q) ev_var ev_var hgq) (Nat.le_trans hB.len (bl_to (α := Unit) _ hlt)) (fun e he => Nat.le_trans (hB.small e he) (bl_to (α := Unit) _ hlt)) fun bs1 h1 => ?_
      have hl1 := h1.len
      have hs1 := h1.small _ hB.small
      have hl0 := hB.len
      refine st_sapp2 (bs := bs1) rfl ev_str ev_var (fun _ => ev_dget (k := p) ev_var ev_var hgp) (by omega) (fun e he => by have := hs1 e he; omega) fun bs2 h2 => ?_
      refine st_turn rfl (bs2, some (.str p), some (.str q), some v6) ⟨?_, all_take_snoc hx hA ?_⟩ (fun _ _ => trivial)
      · show BI tp tq ((fpairs W).take (i + 1)) bs2
        rw [e1]
        exact hB.step h1 h2
      · have : badPair (kdP tp p, kdP tq q) = false := hb
        show (!badPair (kdP tp p, kdP tq q)) = true
        rw [this]
        rfl
  rintro L ⟨bs, o4, o5, o6⟩ ⟨hB, hA⟩
  dsimp only at hB hA ⊢
  rw [List.take_of_length_le (Nat.le_refl _)] at hB hA
  refine st_forL (tgN tStr 4) (fun i (γ : Option V) => (W.people.take i).all (fitP W tp tq) = true) (fun _ => Asr.tt) (fun _ => bO pb bs) (fun γ => [some v1, some v2, some v3, some (.ref pb), γ, o5, o6]) (ev_meth ev_var ea_nil trivial) o4 rfl (fun _ _ => trivial) ?_ ?_
  · rintro L i p ω o4 hx ho hP
    have ho : ω = V.str p := ho
    subst ho
    have hp : p ∈ W.people := List.mem_of_getElem? hx
    have hgp : dget tp p = some (kdP tp p) := kd_get (by rw [pre.kp]; exact hp)
    have hbg : bget bs [.inr "person", .inr p] = (W.first p).map (kdP tq) := by
      rw [hB.gp, fpairs_at ok hp, List.map_map]
      rfl
    have hfalse : fitP W tp tq p = false → false = fitB W tp tq := fun h => by
      unfold fitB
      rw [all_false hp h, Bool.false_and, Bool.and_false]
    refine st_if (et_and (et_test (ev_eqK (ev_dget (k := p) ev_var ev_var hgp) (ev_kd (k := .tight)))) fun _ => et_test (ev_bnin (bs := bs) (k := Kd.loose) rfl ev_kd ev_str ev_var)) (fun hb => ?_) (fun hb => ?_)
    · rw [hbg] at hb
      refine st_retF ret ev_bl (hfalse ?_)
      unfold fitP
      rw [hb]
      rfl
    · rw [hbg] at hb
      refine st_thru ?_
      refine st_if (et_and (et_test (ev_neK (ev_dget (k := p) ev_var ev_var hgp) (ev_kd (k := .paired)))) fun _ => et_test (ev_eqE (ev_call (ea_cons ev_var (ea_cons ev_var ea_nil)) (row_some hp)))) (fun hb2 => ?_) (fun hb2 => ?_)
      · refine st_retF ret ev_bl (hfalse ?_)
        unfold fitP
        rw [show (!decide (kdP tp p = .paired) && (W.first p).isEmpty) = true from hb2]
        simp
      · refine st_thru (st_turn rfl (some (.str p)) (all_take_snoc hx hP ?_) (fun _ _ => trivial))
        unfold fitP
        rw [hb, show (!decide (kdP tp p = .paired) && (W.first p).isEmpty) = false from hb2]
        rfl
  rintro L o4 hP
  have hP : (W.people.take W.people.length).all (fitP W tp tq) = true := hP
  rw [List.take_of_length_le (Nat.le_refl _)] at hP
  refine st_forL (tgN tStr 5) (fun i (γ : Option V) => (W.places.take i).all (fitQ W tp tq) = true) (fun _ => Asr.tt) (fun _ => bO pb bs) (fun γ => [some v1, some v2, some v3, some (.ref pb), o4, γ, o6]) (ev_meth ev_var ea_nil trivial) o5 rfl (fun _ _ => trivial) ?_ ?_
  · rintro L i q ω o5 hx ho hQ
    have ho : ω = V.str q := ho
    subst ho
    have hq : q ∈ W.places := List.mem_of_getElem? hx
    have hgq : dget tq q = some (kdP tq q) := kd_get (by rw [pre.kq]; exact hq)
    have hbg := hB.gq q
    refine st_if (et_and (et_test (ev_eqK (ev_dget (k := q) ev_var ev_var hgq) (ev_kd (k := .tight)))) fun _ => et_test (ev_bnin (bs := bs) (k := Kd.loose) rfl ev_kd ev_str ev_var)) (fun hb => ?_) (fun hb => ?_)
    · rw [hbg] at hb
      refine st_retF ret ev_bl ?_
      show false = fitB W tp tq
      unfold fitB
      rw [all_false (f := fitQ W tp tq) hq (by unfold fitQ; rw [hb]; rfl), Bool.and_false, Bool.and_false]
    · rw [hbg] at hb
      refine st_thru (st_turn rfl (some (.str q)) (all_take_snoc hx hQ ?_) (fun _ _ => trivial))
      unfold fitQ
      rw [hb]
      rfl
  rintro L o5 hQ
  have hQ : (W.places.take W.places.length).all (fitQ W tp tq) = true := hQ
  rw [List.take_of_length_le (Nat.le_refl _)] at hQ
  refine st_retF ret ev_bl ?_
  show true = fitB W tp tq
  unfold fitB
  rw [hA, hP, hQ]
  rfl
theorem all_keys {α : Type} {xs : List (Str × α)} (hn : (keys xs).Nodup) (g : Str → α → Bool) (d0 : α) : xs.all (fun x => g x.1 x.2) = (keys xs).all fun k => g k ((dget xs k).getD d0) := by
  rw [Bool.eq_iff_iff, List.all_eq_true, List.all_eq_true]
  constructor
  · intro h k hk
    obtain ⟨x, hx⟩ := Option.isSome_iff_exists.mp (dget_isSome.mpr hk)
    rw [hx]
    exact h (k, x) (dget_mem hx)
  · intro h x hx
    have := h x.1 (mem_keys hx)
    rw [nd_mem hn (show (x.1, x.2) ∈ xs from hx)] at this
    exact this
abbrev s_are_loose_papers : Stmt := top 36
abbrev N_are_loose_papers : List Str := ["lists", "told", "thing", "many", "name"]
theorem sc_are_loose_papers : FnScope N_are_loose_papers ["lists", "told", "thing", "many"] (C8.fnScope s_are_loose_papers) := ⟨rfl, rfl, rfl, by decide +kernel, rfl, by decide +kernel, by decide +kernel⟩
theorem ok_are_loose_papers (T : Bi mg) (Dd : Dn K mg "are_loose_papers" s_are_loose_papers ["lists", "told", "thing", "many"]) (c_is_firsts : P_is_firsts P w K mg base C) : P_are_loose_papers P w K mg base C := by
  refine cal4 Dd sc_are_loose_papers fun f cdv A outer s H E hr => ?_
  have hu := hu_of hr
  refine ⟨_, (pss_cons (ps_if ((pw_or (pt_not (pt_val (pe_callB (k_isi K) (by rfl) T.isi (by decide +kernel) (pa_cons (pv 2) (pa_cons (pe_bltn (v := .ty "dict") (u := .type "dict") (by rfl) T.dict (by decide +kernel) rfl) pa_nil))))) (pw_or1 (pt_cmpR op_ne (pe_callB (k_len K) (by rfl) T.len (by decide +kernel) (pa_cons (pv 2) pa_nil)) (pe_callB (k_len K) (by rfl) T.len (by decide +kernel) (pa_cons (pe_lockM (pe_lc (own := [("name", 4)]) (g := gName 4) (by rfl) sc_are_loose_papers.nd (pi_keys (pv 1)) (blkOk_by (own := [("name", 4)]) (N := N_are_loose_papers) (sc := C8.fnScope s_are_loose_papers) (by decide +kernel)) (fun _ _ _ _ _ => (pg_name (i := 4) sc_are_loose_papers.nd rfl (Or.inl rfl))) (fun _ _ _ _ _ => (pts_one (pt_cmpR op_eq (pe_dget hu (pv 1) (pv 4) (fun _ _ => rfl)) pe_str (nomark _)))) (fun _ _ _ _ _ => (pv 4)))) pa_nil)) (nomark _))))).pt
    (pss_cons (ps_ret pe_bl) pss_nil)
    pss_nil) (
    pss_cons (ps_ret (pe_callB (k_all K rfl) (by rfl) T.all (by decide +kernel) (pa_cons (pe_lockM (pe_lc (own := [("name", 4)]) (g := gName 4) (by rfl) sc_are_loose_papers.nd (pi_keys (pv 1)) (blkOk_by (own := [("name", 4)]) (N := N_are_loose_papers) (sc := C8.fnScope s_are_loose_papers) (by decide +kernel)) (fun _ _ _ _ _ => (pg_name (i := 4) sc_are_loose_papers.nd rfl (Or.inl rfl))) (fun _ _ _ _ _ => (pts_one (pt_cmpR op_eq (pe_dget hu (pv 1) (pv 4) (fun _ _ => rfl)) pe_str (nomark _)))) (fun _ _ _ _ _ => (pe_and (pe_cmp (pc_din hu (pv 4) (pv 2)) rfl) (pe_one (C8.pe_c c_is_firsts hr (by decide) (by rfl) (pa_cons (pv 0) (pa_cons (pe_dget hu (pv 2) (pv 4) (fun _ _ => rfl)) (pa_cons (pv 3) pa_nil))))))))) pa_nil))) pss_nil)), ?_⟩
  rintro B D v1 v2 v3 v4 W tp pp m h1 h2 h3 rfl ⟨ok, hn, hk, hv⟩ ret -
  dsimp only at ok hn hk hv
  have hnp : (keys pp).Nodup := by
    rw [hk]
    exact hn.filter _
  have hloose : ∀ (L : Asr) k x, (k, x) ∈ tp → EvT ((((((Asr.tt.is (tHeld K C) v1 W).is (tDct tKd) v2 tp).is (tDct (tDct tStr)) v3 pp).is tInt (V.int m) m)).and L) [] ((wipe [some v1, some v2, some v3, some (V.int m), none] [4]).set 4 (some (.str k))) (tTest (tOp rEq (tDGet (tVar 1) (tVar 4)) (tC (.str "loose")))) (decide (kdP tp k = .loose)) := fun L k x hx =>
    et_test (ev_eqK (ev_dget (k := k) ev_var ev_var (kd_get (mem_keys hx))) ev_kd)
  refine st_ifF (et_is (et_or (b := false) (et_not (et_B (ev_isi (b := true) ev_var ty_dct (by decide +kernel)))) fun _ => et_is (et_test (ev_neI (ev_lenD ev_var) (ev_lenL (ev_lcK (K := K) (u := tStr) (fun k => decide (kdP tp k = .loose)) id evd_var hloose (fun L k x hx _ => ev_var))))) ?_) rfl) (st_thru ?_)
  · rw [List.map_id]
    have : (looseK tp).length = pp.length := by rw [← hk, keys_len]
    show (!decide ((pp.length : Int) = ((looseK tp).length : Int))) = false
    rw [this, decide_eq_true rfl]
    rfl
  refine st_retF ret (ev_is (ev_all (ev_lcK (K := K) (u := tBool) (fun k => decide (kdP tp k = .loose)) (fun k => decide ((((dget pp k).getD []).length : Int) = m)) evd_var hloose (fun L k x hx hf => ?_))) (x' := lenAll m pp) ?_) rfl
  · have hkl : k ∈ keys pp := by
      rw [hk]
      exact List.mem_filter.mpr ⟨mem_keys hx, hf⟩
    obtain ⟨d, hd⟩ := Option.isSome_iff_exists.mp (dget_isSome.mpr hkl)
    refine ev_is (ev_andV (a := true) (b := decide ((d.length : Int) = m)) (ev_is (ev_din (k := k) ev_var ev_var) (dget_isSome.mpr hkl)) fun _ => ev_call (ea_cons ev_var (ea_cons (ev_dget (k := k) ev_var ev_var hd) (ea_cons ev_var ea_nil))) ⟨ok, hv _ (dget_mem hd)⟩) ?_
    rw [hd]
    rfl
  · unfold lenAll
    rw [all_keys hnp (fun _ d => decide ((d.length : Int) = m)) [], hk, List.all_map]
    rfl
abbrev s_sorts_hold : Stmt := top 37
abbrev N_sorts_hold : List Str := ["lists", "told", "paper", "people", "places", "paired", "many", "one", "person", "dealing", "place"]
theorem sc_sorts_hold : FnScope N_sorts_hold ["lists", "told", "paper"] (C8.fnScope s_sorts_hold) := ⟨rfl, rfl, rfl, by decide +kernel, rfl, by decide +kernel, by decide +kernel⟩
theorem ok_sorts_hold (T : Bi mg) (Dd : Dn K mg "sorts_hold" s_sorts_hold ["lists", "told", "paper"]) (c_need_held : P_need_held P w K mg base C) (c_are_sorts : P_are_sorts P w K mg base C) (c_paired_with_group : P_paired_with_group P w K mg base C) (c_sorts_fit : P_sorts_fit P w K mg base C) (c_holders_with : P_holders_with P w K mg base C) (c_is_firsts : P_is_firsts P w K mg base C) (c_are_loose_papers : P_are_loose_papers P w K mg base C) (m_holders : P_holders P w K mg base C) : P_sorts_hold P w K mg base C := by
  refine cal3 Dd sc_sorts_hold fun f cdv A outer s H E hr => ?_
  have hu := hu_of hr
  refine ⟨_, (pss_cons (ps_expr (C8.pe_c c_need_held hr (by decide) (by rfl) (pa_cons (pv 0) pa_nil))) (
    pss_cons (ps_if ((pw_or (pt_not (pt_val (C8.pe_c c_are_sorts hr (by decide) (by rfl) (pa_cons (pv 0) (pa_cons (pv 1) pa_nil))))) (pw_or (pt_not (pt_val (pe_callB (k_isi K) (by rfl) T.isi (by decide +kernel) (pa_cons (pv 2) (pa_cons (pe_bltn (v := .ty "tuple") (u := .type "tuple") (by rfl) T.tuple (by decide +kernel) rfl) pa_nil))))) (pw_or1 (pt_cmpR op_ne (pe_callB (k_len K) (by rfl) T.len (by decide +kernel) (pa_cons (pv 2) pa_nil)) pe_int (nomark _)))))).pt
    (pss_cons (ps_ret pe_bl) pss_nil)
    pss_nil) (
    pss_cons (ps_asg (pv 1) (pg_tup rfl (pgs_cons (pg_name (i := 3) sc_sorts_hold.nd rfl (Or.inr rfl)) (pgs_cons (pg_name (i := 4) sc_sorts_hold.nd rfl (Or.inl rfl)) pgs_nil)))) (
    pss_cons (ps_set (i := 5) sc_sorts_hold.nd rfl (Or.inl rfl) (C8.pe_c c_paired_with_group hr (by decide) (by rfl) (pa_cons (pv 0) (pa_cons (pv 3) pa_nil)))) (
    pss_cons (ps_if ((pw_or (pt_not (pt_val (C8.pe_c c_sorts_fit hr (by decide) (by rfl) (pa_cons (pv 0) (pa_cons (pv 3) (pa_cons (pv 4) pa_nil)))))) (pw_or1 (pt_cmpR op_ne (pv 5) (C8.pe_c c_holders_with hr (by decide) (by rfl) (pa_cons (pv 0) (pa_cons (pv 4) (pa_cons pe_str pa_nil)))) (nomark _))))).pt
    (pss_cons (ps_ret pe_bl) pss_nil)
    pss_nil) (
    pss_cons (ps_set (i := 6) sc_sorts_hold.nd rfl (Or.inl rfl) (pe_op op_add (pe_op op_add (pv 5) (C8.pe_c c_holders_with hr (by decide) (by rfl) (pa_cons (pv 0) (pa_cons (pv 4) (pa_cons pe_str pa_nil))))) (pe_callB (k_len K) (by rfl) T.len (by decide +kernel) (pa_cons (pe_lockM (pe_lc (own := [("one", 7)]) (g := gName 7) (by rfl) sc_sorts_hold.nd (pi_keys (pv 3)) (blkOk_by (own := [("one", 7)]) (N := N_sorts_hold) (sc := C8.fnScope s_sorts_hold) (by decide +kernel)) (fun _ _ _ _ _ => (pg_name (i := 7) sc_sorts_hold.nd rfl (Or.inl rfl))) (fun _ _ _ _ _ => (pts_one (pt_cmpR op_eq (pe_dget hu (pv 3) (pv 7) (fun _ _ => rfl)) pe_str (nomark _)))) (fun _ _ _ _ _ => (pv 7)))) pa_nil)))) (
    pss_cons (ps_if (pt_not (pt_val (C8.pe_c c_is_firsts hr (by decide) (by rfl) (pa_cons (pv 0) (pa_cons (pe_ix (ixT K) (pv 2) pe_int (fun _ _ => rfl)) (pa_cons (pv 6) pa_nil))))))
    (pss_cons (ps_ret pe_bl) pss_nil)
    pss_nil) (
    pss_cons (ps_if ((pw_or (pt_not (pt_val (C8.pe_c c_are_loose_papers hr (by decide) (by rfl) (pa_cons (pv 0) (pa_cons (pv 3) (pa_cons (pe_ix (ixT K) (pv 2) pe_int (fun _ _ => rfl)) (pa_cons (pv 6) pa_nil))))))) (pw_or1 (pt_not (pt_val (C8.pe_c c_are_loose_papers hr (by decide) (by rfl) (pa_cons (pv 0) (pa_cons (pv 4) (pa_cons (pe_ix (ixT K) (pv 2) pe_int (fun _ _ => rfl)) (pa_cons (pv 6) pa_nil)))))))))).pt
    (pss_cons (ps_ret pe_bl) pss_nil)
    pss_nil) (
    pss_cons (ps_lockM (ps_for PassesOwn.never rfl (pi_items (pe_ix (ixT K) (pv 2) pe_int (fun _ _ => rfl))) (pg_tup rfl (pgs_cons (pg_name (i := 8) sc_sorts_hold.nd rfl (Or.inl rfl)) (pgs_cons (pg_name (i := 9) sc_sorts_hold.nd rfl (Or.inr rfl)) pgs_nil)))
    (pss_cons (ps_if (pt_cmp (pc_din hu (pv 8) (pv 9)) rfl)
      (pss_cons (ps_ret pe_bl) pss_nil)
      pss_nil) pss_nil))) (
    pss_cons (ps_lockM (ps_for PassesOwn.never rfl (pi_items (pe_ix (ixT K) (pv 2) pe_int (fun _ _ => rfl))) (pg_tup rfl (pgs_cons (pg_name (i := 10) sc_sorts_hold.nd rfl (Or.inr rfl)) (pgs_cons (pg_name (i := 9) sc_sorts_hold.nd rfl (Or.inr rfl)) pgs_nil)))
    (pss_cons (ps_if (pt_cmpR op_ge (pe_callB (k_len K) (by rfl) T.len (by decide +kernel) (pa_cons (pe_lockM (pe_lc (own := [("one", 7)]) (g := gName 7) (by rfl) sc_sorts_hold.nd (pi_keys (pv 9)) (blkOk_by (own := [("one", 7)]) (N := N_sorts_hold) (sc := C8.fnScope s_sorts_hold) (by decide +kernel)) (fun _ _ _ _ _ => (pg_name (i := 7) sc_sorts_hold.nd rfl (Or.inl rfl))) (fun _ _ _ _ _ => (pts_one (pt_cmpR op_eq (pe_dget hu (pv 9) (pv 7) (fun _ _ => rfl)) (pv 10) (nomark _)))) (fun _ _ _ _ _ => (pv 7)))) pa_nil)) (C8.pe_mt m_holders hr (by decide) (pv 0) (pa_cons (pv 10) pa_nil)) (nomark _))
      (pss_cons (ps_ret pe_bl) pss_nil)
      pss_nil) pss_nil))) (
    pss_cons (ps_ret pe_bl) pss_nil))))))))))), ?_⟩
  rintro B D v1 v2 v3 W ⟨tp, tq⟩ ⟨d0, pp, pq⟩ h1 h2 h3 pre ret -
  have pre : PreH W tp tq d0 pp pq := pre
  have ret : RetOk B tBool (fun y => y = holdB W tp tq d0 pp pq) D := ret
  have ok := pre.ok
  have hnp : (keys tp).Nodup := by rw [pre.kp]; exact ok.pn
  have hnq : (keys tq).Nodup := by rw [pre.kq]; exact ok.qn
  refine st_drop (ev_call (ea_cons ev_var ea_nil) trivial) ?_
  refine st_ifF (et_is (et_or (b := false) (et_not (et_B (ev_call (ea_cons ev_var (ea_cons ev_var ea_nil)) pre.toPreT))) fun _ => et_is (et_or (b := false) (et_not (et_B (ev_isi (b := true) ev_var ty_trip (by decide +kernel)))) fun _ => et_is (et_test (ev_neI (ev_len3 ev_var) ev_int)) rfl) rfl) rfl) (st_thru ?_)
  refine st_asgG (tgP K (tDct tKd) (tDct tKd) 3 4) ev_var fun ω _ => ?_
  obtain ⟨w3, w4⟩ := ω
  refine st_asgA (f := V.int) (ev_call (ea_cons ev_var (ea_cons ev_var ea_nil)) pre.kp) ?_
  refine st_if (et_or (et_not (et_B (ev_call (ea_cons ev_var (ea_cons ev_var (ea_cons ev_var ea_nil))) ⟨ok, pre.toPreT⟩))) fun _ => et_test (ev_neI ev_var (ev_call (ea_cons ev_var (ea_cons ev_var (ea_cons (ev_kd (k := .paired)) ea_nil))) pre.kq))) (fun hb => ?_) (fun hb => ?_)
  · refine st_retF ret ev_bl ?_
    have hb : (!fitB W tp tq || !decide (pwg W tp = hw W tq .paired)) = true := hb
    show false = holdB W tp tq d0 pp pq
    unfold holdB
    rw [show (fitB W tp tq && decide (pwg W tp = hw W tq .paired)) = false by
      cases h : fitB W tp tq
      · rfl
      · rw [h] at hb
        rw [Bool.true_and]
        simpa using hb, Bool.false_and]
  have hb : (!fitB W tp tq || !decide (pwg W tp = hw W tq .paired)) = false := hb
  have h0 : (fitB W tp tq && decide (pwg W tp = hw W tq .paired)) = true := by
    cases h : fitB W tp tq
    · rw [h] at hb
      cases hb
    · rw [h] at hb
      rw [Bool.true_and]
      simpa using hb
  refine st_thru ?_
  refine st_asgA (f := V.int) (x := manyF W tp tq) (ev_is (ev_add (ev_add ev_var (ev_call (ea_cons ev_var (ea_cons ev_var (ea_cons (ev_kd (k := .tight)) ea_nil))) pre.kq)) (ev_lenL (ev_lcK (K := K) (u := tStr) (fun k => decide (kdP tp k = .tight)) id evd_var (fun L k x hx => et_test (ev_eqK (ev_dget (k := k) ev_var ev_var (kd_get (mem_keys hx))) (ev_kd (k := .tight)))) (fun L k x hx _ => ev_var)))) ?_) ?_
  · rw [List.map_id]
    rfl
  refine st_if (et_not (et_B (ev_call (ea_cons ev_var (ea_cons (ev_p1 ev_var) (ea_cons ev_varE ea_nil))) ⟨ok, pre.v0⟩))) (fun hb => ?_) (fun hb => ?_)
  · refine st_retF ret ev_bl ?_
    rw [Bool.not_eq_true'] at hb
    have hb : decide ((d0.length : Int) = manyF W tp tq) = false := hb
    show false = holdB W tp tq d0 pp pq
    unfold holdB
    rw [hb, Bool.false_and, Bool.and_false]
  rw [Bool.not_eq_false'] at hb
  have h2 : decide ((d0.length : Int) = manyF W tp tq) = true := hb
  refine st_thru ?_
  refine st_if (et_or (et_not (et_B (ev_call (ea_cons ev_var (ea_cons ev_var (ea_cons (ev_p2 ev_var) (ea_cons ev_varE ea_nil)))) ⟨ok, hnp, pre.kpp, pre.vp⟩))) fun _ => et_not (et_B (ev_call (ea_cons ev_var (ea_cons ev_var (ea_cons (ev_p3 ev_var) (ea_cons ev_varE ea_nil)))) ⟨ok, hnq, pre.kpq, pre.vq⟩))) (fun hb => ?_) (fun hb => ?_)
  · refine st_retF ret ev_bl ?_
    have hb : (!lenAll (manyF W tp tq) pp || !lenAll (manyF W tp tq) pq) = true := hb
    show false = holdB W tp tq d0 pp pq
    unfold holdB
    rw [show (lenAll (manyF W tp tq) pp && lenAll (manyF W tp tq) pq) = false by rw [← Bool.not_and, Bool.not_eq_true'] at hb; exact hb, Bool.false_and, Bool.and_false, Bool.and_false]
  have hb : (!lenAll (manyF W tp tq) pp || !lenAll (manyF W tp tq) pq) = false := hb
  have h3 : (lenAll (manyF W tp tq) pp && lenAll (manyF W tp tq) pq) = true := by rw [← Bool.not_and, Bool.not_eq_false'] at hb; exact hb
  have hall : holdB W tp tq d0 pp pq = (pp.all (fun x => !(dget x.2 x.1).isSome) && pq.all fun x => decide ((cntD x.2 x.1 : Int) < W.hold x.1)) := by
    unfold holdB
    rw [h0, h2, h3, Bool.true_and, Bool.true_and, Bool.true_and]
  refine st_thru ?_
  refine st_forI (tgP K tStr (tDct tStr) 8 9) (fun i (γ : Option V × Option V) => (pp.take i).all (fun x => !(dget x.2 x.1).isSome) = true) (fun _ => Asr.tt) (fun _ => []) (fun γ => [some v1, some v2, some v3, some w3, some w4, some (.int (pwg W tp)), some (.int (manyF W tp tq)), none, γ.1, γ.2, none]) evd_p2 (none, none) rfl (fun _ _ => trivial) ?_ ?_
  · rintro L B' D' hret i ⟨p, d⟩ ⟨w8, w9⟩ c hx ⟨o1, o2⟩ hA
    have o1 : w8 = V.str p := o1
    subst o1
    refine st_if (et_B (ev_din (k := p) ev_var ev_var)) (fun hb => ?_) (fun hb => ?_)
    · refine st_retF (hret ret) ev_bl ?_
      show false = holdB W tp tq d0 pp pq
      rw [hall, all_false (x := (p, d)) (List.mem_of_getElem? hx) (by dsimp only; rw [hb]; rfl), Bool.false_and]
    · refine st_thru (st_turn rfl (some (.str p), some w9) (all_take_snoc hx hA (by dsimp only; rw [hb]; rfl)) (fun _ _ => trivial))
  rintro L ⟨o8, o9⟩ hA
  have hA : (pp.take pp.length).all (fun x => !(dget x.2 x.1).isSome) = true := hA
  rw [List.take_of_length_le (Nat.le_refl _)] at hA
  refine st_forI (tgP K tStr (tDct tStr) 10 9) (fun i (γ : Option V × Option V) => (pq.take i).all (fun x => decide ((cntD x.2 x.1 : Int) < W.hold x.1)) = true) (fun _ => Asr.tt) (fun _ => []) (fun γ => [some v1, some v2, some v3, some w3, some w4, some (.int (pwg W tp)), some (.int (manyF W tp tq)), none, o8, γ.1, γ.2]) evd_p3 (o9, none) rfl (fun _ _ => trivial) ?_ ?_
  · rintro L B' D' hret i ⟨q, d⟩ ⟨w10, w9⟩ c hx ⟨o1, o2⟩ hB
    have o1 : w10 = V.str q := o1
    subst o1
    have hq : q ∈ W.places := by
      have h := mem_keys (List.mem_of_getElem? hx)
      rw [pre.kpq] at h
      rw [← pre.kq]
      exact (List.mem_filter.mp h).1
    refine st_if (et_test (ev_ge (ev_lenL (ev_lcK (K := K) (u := tStr) (fun k => decide (dget d k = some q)) id evd_var (fun L k x hk => ?_) (fun L k x hk _ => ev_var))) (ev_meth ev_var (ea_cons ev_var ea_nil) (row_some hq)))) (fun hb => ?_) (fun hb => ?_)
    · obtain ⟨y, hy⟩ := mem_dget hk
      refine et_is (et_test (ev_eqS (ev_dget (k := k) (x := y) ev_var ev_var hy) ev_var)) ?_
      rw [hy]
      exact decide_eq_decide.mpr ⟨fun h => by rw [h], fun h => Option.some.inj h⟩
    · rw [List.map_id] at hb
      have hb : decide (W.hold q ≤ (cntD d q : Int)) = true := hb
      have hb := of_decide_eq_true hb
      refine st_retF (hret ret) ev_bl ?_
      show false = holdB W tp tq d0 pp pq
      rw [hall, all_false (f := fun x : Str × List (Str × Str) => decide ((cntD x.2 x.1 : Int) < W.hold x.1)) (x := (q, d)) (List.mem_of_getElem? hx) (decide_eq_false (by dsimp only; omega)), Bool.and_false]
    · rw [List.map_id] at hb
      have hb : decide (W.hold q ≤ (cntD d q : Int)) = false := hb
      have hb := of_decide_eq_false hb
      refine st_thru (st_turn rfl (some w9, some (.str q)) (all_take_snoc hx hB (decide_eq_true (by dsimp only; omega))) (fun _ _ => trivial))
  rintro L ⟨o9, o10⟩ hB
  have hB : (pq.take pq.length).all (fun x => decide ((cntD x.2 x.1 : Int) < W.hold x.1)) = true := hB
  rw [List.take_of_length_le (Nat.le_refl _)] at hB
  refine st_retF ret ev_bl ?_
  show true = holdB W tp tq d0 pp pq
  rw [hall, hA, hB]
  rfl
end
end G3
set_option maxRecDepth 100000
set_option maxHeartbeats 4000000
/-! G16: extend by a tuple, chains, signs of a text, a look at what is owned, calls of parameters, __init__. -/
namespace PySem
open PyProof.Rows
theorem list_extend_tup (l : Addr) (items : Array Value) (n : Nat) (b : Addr) (items2 : Array Value) (n2 : Nat) (dd : Option Addr) (sl : Array (Option Value)) (hs0 : ¬(!items.isEmpty && Builtin.List.listTooLong (items.size + items2.size)) = true) (hs1 : items.size ≤ sizeLine) (hs2 : items.size + items2.size ≤ sizeLine + 1) :
    Meets (Builtin.«list.extend» ⟨[.ref l, .ref b], []⟩) (fun _ R s => s.heap.get? l = some { cls := .type "list", dict := none, data := .seq items n, slots := #[] } ∧ s.heap.get? b = some { cls := .type "tuple", dict := dd, data := .seq items2 n2, slots := sl } ∧ R (.ok (.ret Value.none)) { s with heap := s.heap.update l (Obj.mapSeq fun x => x ++ items2), toks := s.toks }) :=
  .of_wp fun prog w A R s h => by
    obtain ⟨hp, g, d, tk, os⟩ := s; obtain ⟨hl, hb, h⟩ := h; have f1 := AutoSeq1.idx_int; have f2 := AutoSeq1.sub_tuple_tuple; have f3 := AutoSeq1.sub_list_list; have f4 := AutoSeq1.sub_tuple_list; have f5 := AutoSeq1.sub_list_tuple;
    have hz' : (items ++ items2).size ≤ sizeLine + 1 := by rw [Array.size_append]; exact hs2
    wp_walk using (wpAny_updateSeq hl rfl (hz := hs1) (_hz' := hz')), wpAny_loadPart' hl, wpAny_loadPart' hb; exact ⟨_, rfl, h⟩
end PySem
namespace G3
open PySem PySem.Spec PyProof.Rows L2
def rExtT (K : PySem.W.Frag) : V → List V → Hp → VK → Prop := fun x vs H Q => ∃ l b xs zs, x = .ref l ∧ vs = [.ref b] ∧ H l = some (.lst xs) ∧ SqT K H b zs ∧ xs.length + zs.length ≤ sizeLine ∧ Q .non (upd H l (.lst (xs ++ zs)))
section
variable {X : Cx}
theorem mt_extT (K : PySem.W.Frag) (hK : X.K = K := by rfl) : MtR X "list.extend" (rExtT K) := by
  subst hK
  intro pins s σ H x vs v us Q I rx rv h
  obtain ⟨l, b, xs, zs, rfl, rfl, hH, hB, hz, q⟩ := h
  cases rx
  obtain ⟨u, rfl, ru⟩ := rv.one
  cases ru
  obtain ⟨z, its, n, r, hl, e⟩ := I.lstM hH
  obtain ⟨its2, r2, ⟨o2, e2, hc2, n2, hd2⟩, z2⟩ := I.tuple hB
  have hl2 := r2.length
  obtain ⟨cl, dd, dt, sl⟩ := o2
  dsimp only at hc2 hd2
  subst hc2 hd2
  have hsz : its.toArray.size + its2.toArray.size ≤ sizeLine := by rw [List.size_toArray, List.size_toArray]; omega
  have hlong : ¬ (!its.toArray.isEmpty && Builtin.List.listTooLong (its.toArray.size + its2.toArray.size)) = true := by
    rw [notLongL hsz, Bool.and_false]
    exact Bool.false_ne_true
  refine call_meets F.slot_list_extend ⟨_, e, rfl⟩ F.entry_list_extend (F.args_list_extend_2 _ _)
    (PySem.list_extend_tup l its.toArray n b its2.toArray n2 dd sl hlong (by rw [List.size_toArray]; omega) (by omega)) ⟨e, e2, ?_⟩
  refine ⟨.non, _, I.lset (its' := its ++ its2) hH e (by simp) (r.append r2) ?_, rfl, q⟩
  rw [List.length_append]
  omega
end
/-- anything -/
def tAny : Ty Unit := ⟨fun _ _ _ => True, fun _ _ => True, fun _ => trivial, fun _ _ => trivial⟩
/-- a def as a value -/
abbrev tFn (f : Addr) : Ty Unit := aty fun _ => V.ref f
section
variable {B : Bs} {M : Asr} {O : List (Addr × HO)} {σ : L2.St} {K : PySem.W.Frag} {α β ι γ : Type} {t : Ty α} {u : Ty β} {te ta tb tc : TE} {tz : TS} {D : Ends} {A : TyA ι} {E : XK} {i j : Nat} {p : Addr}
theorem ev_any {v : V} (h : σ[i]? = some (some v) := by rfl) : Ev M O σ tAny (tVar i) () := fun G H m l Q q => ⟨v, h, q v G H (.refl l.le) trivial⟩
theorem st_extT {ws : List V} {xs ys : List α} (hO : O[j]? = some (p, .lst ws)) (hl : ws.length + ys.length ≤ sizeLine) [hm : HasL M ws t xs] (hv : Ev M O σ (tTup K t) te ys) (c : ∀ vs, vs.length = ys.length → St B (M.and ⟨fun G => Fa (t.r G) (ws ++ vs) (xs ++ ys), fun l x => x.imp fun _ _ => t.mono l⟩) (O.set j (p, .lst (ws ++ vs))) tz D σ) (hs : σ[i]? = some (some (.ref p)) := by rfl) :
    St B M O (tSeq (tDrop (tBM K "list" (rExtT K) (tVar i) (tCons te tNil))) tz) D σ := fun G H m e w =>
  ⟨_, hs, .inl ⟨rfl, ws, .of (w.at_ hO).2.2⟩, hv G H m (w.wl e) _ fun v G1 H1 e1 r1 => by
    have eB := B.ext e e1
    have w1 := w.ext e1
    obtain ⟨o1, o2, o3⟩ := w1.at_ hO
    obtain ⟨a, vs, ev, h, g, z⟩ := id r1
    have m1 := M.mono (e1.le (B.le e)) m
    exact ⟨p, a, ws, vs, rfl, by rw [ev], o3, e1.gh.sqT h, by rw [g.length]; exact hl, c vs g.length G1 _ ⟨m1, (hm.get m1).append g⟩ (B.set o1 eB o2) (w1.set hO)⟩⟩
/-- what is owned is looked at: an atom comes out -/
theorem st_seeAt {o : HO} {y : β} {f : α → V} {x : α} (hO : O = (p, o) :: O.tail) (hno : ∀ kvs, o ≠ .dK kvs ∨ True) (hv : ∀ G, M.p G → G p = none → Le G (upd G p o) → u.r (upd G p o) (.ref p) y) (h : Ev (M.is u (.ref p) y) O.tail σ (aty f) te x)
    (k : St B M O tz D (σ.set i (some (f x)))) : St B M O (tSeq (tAsg te (gName i)) tz) D σ := fun G H m e w => by
  have w0 := w
  rw [hO] at w
  obtain ⟨o1, o2, o3⟩ := w.2 _ List.mem_cons_self
  dsimp only at o1 o2 o3
  have lg : Le G (upd G p o) := (Le.refl G).owned o2
  have lh : Le (upd G p o) H := fun a u ha => by
    by_cases q : a = p
    · subst q
      rw [upd_same] at ha
      rw [← ha]
      exact .inl o3
    · rw [upd_ne q] at ha
      exact B.le e a u ha
  refine h (upd G p o) H ⟨M.mono lg m, hv G m o2 lg⟩ ⟨lh, fun po hm => ?_⟩ _ fun v G2 H2 e2 r2 => ?_
  · obtain ⟨a2, b2, c2⟩ := w.2 po (List.mem_cons_of_mem _ hm)
    have ne : po.1 ≠ p := fun z => (List.nodup_cons.mp w.1).1 (List.mem_map.mpr ⟨po, hm, z⟩)
    exact ⟨by rw [upd_ne ne]; exact b2, c2⟩
  · have e3 : Ext G H (hide G2 p) H2 := by
      refine ⟨fun a ha => ?_, e2.hh, fun a u ha => ?_⟩
      · unfold hide
        by_cases q : a = p
        · rw [if_pos q, q, o2]
        · rw [if_neg q, e2.gg a ha, upd_ne q]
      · unfold hide at ha
        by_cases q : a = p
        · rw [if_pos q] at ha
          cases ha
        · rw [if_neg q] at ha
          exact e2.gh a u ha
    have r3 : v = f x := r2
    subst r3
    exact k (hide G2 p) H2 (M.mono (e3.le (B.le e)) m) (B.ext e e3) (w0.ext e3)
/-- a call of a parameter -/
theorem ev_callL {f : Addr} {pre : ι → Prop} {F : ι → β} {a : ι} {tr : TA} (hs : σ[i]? = some (some (.ref f))) (h : EvA M O σ A tr a) (hp : pre a) : Ev M O σ u (tCallL i f (SpF A pre u F) [] E tr) (F a) := fun G H m l Q q => ⟨hs, h G H m l _ fun vs G1 H1 e1 r1 => by
  rw [List.append_nil]
  exact ⟨G1, a, e1.gh, r1, hp, fun v y G2 H2 e2 hy r2 => q v G2 H2 (e1.trans e2) (hy ▸ r2)⟩⟩
/-! chains -/
theorem ev_chain {w : Ty γ} {r r' : R2} {x : α} {y : β} {z : γ} {b c : Bool} (ha : Ev M O σ t ta x) (hb : Ev M O σ u tb y) (hc : Ev M O σ w tc z) (hr : ∀ G H v v' Q, Le G H → t.r G v x → u.r G v' y → Q (.bl b) H → r v v' H Q)
    (hr' : ∀ G H v v' Q, Le G H → u.r G v y → w.r G v' z → Q (.bl c) H → r' v v' H Q) : Ev M O σ tBool (tChain r r' ta tb tc) (b && c) := fun G H m l Q q =>
  ha G H m l _ fun v G1 H1 e1 r1 => hb G1 H1 (M.mono (e1.le l.le) m) (l.ext e1) _ fun v2 G2 H2 e2 r2 => hr G2 H2 v v2 _ e2.gh (t.mono (e2.le e1.gh) r1) r2 ⟨b, rfl, by
    cases b with
    | true =>
      rw [if_pos rfl]
      exact hc G2 H2 (M.mono ((e1.trans e2).le l.le) m) ((l.ext e1).ext e2) _ fun v3 G3 H3 e3 r3 => hr' G3 H3 v2 v3 Q e3.gh (u.mono (e3.le e2.gh) r2) r3 (q _ G3 H3 ((e1.trans e2).trans e3) rfl)
    | false =>
      rw [if_neg Bool.false_ne_true]
      exact q _ G2 H2 (e1.trans e2) rfl⟩
theorem ev_chainI {a b c : Int} (ha : Ev M O σ tInt ta a) (hb : Ev M O σ tInt tb b) (hc : Ev M O σ tInt tc c) : Ev M O σ tBool (tChain (rI0 fun i j => .bl (decide (i ≤ j))) (rI0 fun i j => .bl (decide (i ≤ j))) ta tb tc) (decide (a ≤ b) && decide (b ≤ c)) :=
  ev_chain ha hb hc (fun G H v v' Q l h1 h2 q => ⟨a, b, h1, h2, q⟩) (fun G H v v' Q l h1 h2 q => ⟨b, c, h1, h2, q⟩)
def rLeS : R2 := fun x y H Q => ∃ i j, x = .str i ∧ y = .str j ∧ Q (.bl (!decide (j.cps.toList < i.cps.toList))) H
theorem ev_chainS {a b c : Str} (ha : Ev M O σ tStr ta a) (hb : Ev M O σ tStr tb b) (hc : Ev M O σ tStr tc c) : Ev M O σ tBool (tChain rLeS rLeS ta tb tc) (!decide (b.cps.toList < a.cps.toList) && !decide (c.cps.toList < b.cps.toList)) :=
  ev_chain ha hb hc (fun G H v v' Q l h1 h2 q => ⟨a, b, h1, h2, q⟩) (fun G H v v' Q l h1 h2 q => ⟨b, c, h1, h2, q⟩)
/-! texts -/
theorem ev_ixS {s : Str} {i : Nat} {j : Int} {c : Nat} (ha : Ev M O σ tStr ta s) (hb : Ev M O σ tInt tb j) (hj : j = (i : Int)) (hl : s.length ≤ sizeLine) (hx : s.cps.toList[i]? = some c) : Ev M O σ tStr (tOp rIxS ta tb) ⟨#[c]⟩ := ev_opA ha hb fun G H v v' Q l h1 h2 q => by
  refine ⟨s, j, c, h1, h2, hl, ?_, q⟩
  rw [hj]
  exact atI_nat hx
theorem ev_ninS {c : Nat} {s : Str} (ha : Ev M O σ tStr ta ⟨#[c]⟩) (hb : Ev M O σ tStr tb s) : Ev M O σ tBool (tOp rNotInS ta tb) (!decide (c ∈ s.cps.toList)) := ev_opA ha hb fun G H v v' Q l h1 h2 q => ⟨c, s, h1, h2, q⟩
/-- for c in a text -/
theorem st_forS {s : Str} {tl : TE} {tb : TS} (Jv : Nat → γ → Prop) (Xg : γ → Asr) (Og : γ → List (Addr × HO)) (sg : γ → L2.St) (h : Ev M O σ tStr tl s) (g0 : γ) (j0 : Jv 0 g0) (x0 : ∀ G, M.p G → (Xg g0).p G)
    (hs : ∀ (i : Nat) (c : Nat) g, s.cps.toList[i]? = some c → Jv i g → St B (M.and (Xg g)) (Og g) tb { D with nx := Lp B M (Jv (i + 1)) Xg Og sg, ct := Lp B M (Jv (i + 1)) Xg Og sg, bk := tz D } ((sg g).set j (some (.str ⟨#[c]⟩))))
    (hd : ∀ g, Jv s.cps.toList.length g → St B (M.and (Xg g)) (Og g) tz D (sg g)) (s0 : σ = sg g0 := by rfl) (o0 : O = Og g0 := by rfl) : St B M O (tSeq (tFor (iStr tl) (gName j) tb) tz) D σ := fun G H m e w =>
  h G H m (w.wl e) _ fun v G1 H1 e1 r1 => by
    have r2 : v = V.str s := r1
    subst r2
    have eB := B.ext e e1
    subst s0 o0
    refine ⟨s, rfl, ?_⟩
    refine for_it (g := gName j) (tb := tb) (D := { D with nx := tz D }) (walk_str (z := s)) (fun i => Lp B M (Jv i) Xg Og sg) ⟨g0, j0, rfl, G1, ⟨M.mono (e1.le (B.le e)) m, x0 G1 (M.mono (e1.le (B.le e)) m)⟩, eB, w.ext e1⟩ (fun _ _ _ _ _ => trivial) ?_ ?_
    · rintro i v σ H H' hi ⟨g, jg, rfl, G, m, e, o⟩ ⟨rfl, c, hc, rfl⟩
      have hc2 : s.cps.toList[i]? = some c := by rw [← hc]; simp
      exact hs i c g hc2 jg G _ m e o
    · rintro σ H ⟨g, jg, rfl, G, m, e, o⟩
      exact hd g (by simpa using jg) G H m e o
end
theorem o_notInS {X : Cx} : OpR X (compareOp .NotIn) rNotInS := op_notIn_sign
theorem o_leS {X : Cx} : OpR X (compareOp .LtE) rLeS := op_le_str
end G3
set_option maxRecDepth 100000
set_option maxHeartbeats 4000000
/-! F9: words and checks, at what is right. -/
namespace G3
open PySem PySem.Spec PyProof.Rows L2
def signsL : List Nat := (Str.ofString "abcdefghijklmnopqrstuvwxyz0123456789").cps.toList
structure NameOk (s : Str) : Prop where
  len : s.cps.toList.length ≤ 8
  hd : ∃ c r, s.cps.toList = c :: r ∧ 97 ≤ c ∧ c ≤ 122
  all : ∀ c ∈ s.cps.toList, c ∈ signsL
structure GOk (gs : List (List Str)) : Prop where
  ne : ∀ g ∈ gs, g ≠ [] ∧ ∀ n ∈ g, NameOk n
  nd : gs.flatten.Nodup
  len : gs.flatten.length ≤ 10
theorem kitL {K : PySem.W.Frag} : PySem.W.kitAny K (.type "list") [.type "list", .type "tuple"] = some true := kitAny_cons (b := true) (kit_ty (by decide +kernel)) (fun h => (nomatch h)) (fun _ => rfl)
theorem kitT {K : PySem.W.Frag} : PySem.W.kitAny K (.type "tuple") [.type "list", .type "tuple"] = some true := kitAny_cons (b := false) (kit_ty (by decide +kernel)) (fun _ => kitAny_cons (b := true) (kit_ty (by decide +kernel)) (fun h => (nomatch h)) (fun _ => rfl)) (fun h => (nomatch h))
theorem ev_slTo {M : Asr} {O : List (Addr × HO)} {σ : L2.St} {K : PySem.W.Frag} {α : Type} {t : Ty α} {ta tb : TE} {xs : List α} {i : Nat} (ha : Ev M O σ (tLst K t) ta xs) (hb : Ev M O σ tInt tb (i : Int)) (hi : i ≤ xs.length) : Ev M O σ (tLst K t) (tSl (rSlL K) ta tNoPart (tPart tb)) (xs.take i) := fun G H m l Q q =>
  ha G H m l _ fun v G1 H1 e1 r1 => hb G1 H1 (M.mono (e1.le l.le) m) (l.ext e1) _ fun v2 G2 H2 e2 r2 => by
    obtain ⟨a, vs, ev, hs, fa, z⟩ := (tLst K t).mono (e2.le e1.gh) r1
    refine ⟨i, r2, a, vs, ev, e2.gh.sqL hs, fun p hp => ?_⟩
    have hn := fa.length
    have ec : cutV vs none (some (i : Int)) = vs.take i := by
      unfold cutV
      have e3 : HT.sIx vs.length 0 none = 0 := rfl
      have e4 : HT.sIx vs.length vs.length (some (i : Int)) = i := by
        unfold HT.sIx
        dsimp only
        rw [if_neg (by omega)]
        omega
      rw [e3, e4]
      rfl
    rw [ec]
    have x3 := Ext.new (o := .lst (vs.take i)) e2.gh hp
    refine q _ _ _ ((e1.trans e2).trans x3) ⟨p, vs.take i, rfl, .of upd_same, ?_, by rw [List.length_take]; omega⟩
    have ft : ∀ {vs : List V} {xs : List α} (n : Nat), Fa (t.r G2) vs xs → Fa (t.r (upd G2 p (.lst (vs.take n)))) (vs.take n) (xs.take n) → True := fun _ _ _ => trivial
    have gen : ∀ (G' : Hp), Le G2 G' → ∀ {vs : List V} {xs : List α} (n : Nat), Fa (t.r G2) vs xs → Fa (t.r G') (vs.take n) (xs.take n) := by
      intro G' lg vs xs n h
      induction h generalizing n with
      | nil => rw [List.take_nil, List.take_nil]; exact .nil
      | cons r _ ih =>
        cases n with
        | zero => exact .nil
        | succ n => exact .cons (t.mono lg r) (ih n)
    exact gen _ (x3.le e2.gh) i fa
section
variable (P : Program) (w : World) (K : PySem.W.Frag) (mg : Str → Option Value) (base : Heap) (C : Addr)
abbrev P_is_whole : Prop := C8.Cal P w K mg base 1 "is_whole" (SpF (aCons tInt aNil) (fun _ => True) tBool fun _ => true) []
abbrev P_is_within : Prop := C8.Cal P w K mg base 2 "is_within" (SpF (aCons tInt (aCons tInt (aCons tInt aNil))) (fun _ => True) tBool fun i => decide (i.2.1 ≤ i.1) && decide (i.1 ≤ i.2.2.1)) []
abbrev P_are_signs : Prop := C8.Cal P w K mg base 1 "are_signs" (SpF (aCons tStr (aCons tStr aNil)) (fun _ => True) tBool fun i => i.1.cps.toList.all fun c => decide (c ∈ i.2.1.cps.toList)) []
abbrev P_is_name : Prop := C8.Cal P w K mg base 2 "is_name" (SpF (aCons tStr aNil) (fun i => NameOk i.1) tBool fun _ => true) []
abbrev P_head_fault {α : Type} (t : Ty α) : Prop := C8.Cal P w K mg base 3 "head_fault" (SpF (aCons (tLst K (tPair K tStr t)) (aCons (tPair K tStr t) aNil)) (fun i => NameOk i.2.1.1 ∧ i.2.1.1 ∉ keys i.1) (tOpt V.str) fun _ => none) []
abbrev P_is_group : Prop := C8.Cal P w K mg base 3 "is_group" (SpF (aCons (tTup K tStr) aNil) (fun i => i.1 ≠ [] ∧ ∀ n ∈ i.1, NameOk n) tBool fun _ => true) []
abbrev P_names_in : Prop := C8.Cal P w K mg base 1 "names_in" (SpF (aCons (tGrps K) aNil) (fun i => i.1.flatten.length ≤ 10) (tLst K tStr) fun i => i.1.flatten) []
abbrev P_groups_fault : Prop := C8.Cal P w K mg base 4 "groups_fault" (SpF (aCons tAny (aCons (tGrps K) aNil)) (fun i => GOk i.2.1) (tOpt V.str) fun _ => none) []
abbrev P_groups_shaped : Prop := C8.Cal P w K mg base 1 "groups_shaped" (SpF (aCons (tGrps K) aNil) (fun i => GOk i.1) (tGrps K) fun i => i.1) []
abbrev P_many_fault : Prop := C8.Cal P w K mg base 3 "many_fault" (SpF (aCons tAny (aCons tInt aNil)) (fun i => 1 ≤ i.2.1 ∧ i.2.1 ≤ 4) (tOpt V.str) fun _ => none) []
abbrev P_many_shaped : Prop := C8.Cal P w K mg base 1 "many_shaped" (SpF (aCons tInt aNil) (fun i => 1 ≤ i.1 ∧ i.1 ≤ 4) tInt fun i => i.1) []
abbrev P_need_known : Prop := C8.Cal P w K mg base 2 "need_known" (SpF (aCons tStr (aCons (tFolk K) (aCons (tLst K tStr) aNil))) (fun i => ∀ r ∈ i.2.1, r.2.flatten.length ≤ 10 ∧ ∀ n ∈ r.2.flatten, n ∈ i.2.2.1) tNon fun _ => ()) []
end
section
variable {P : Program} {w : World} {K : PySem.W.Frag} {mg : Str → Option Value} {base : Heap} {C : Addr}
abbrev s_is_whole : Stmt := top 39
abbrev N_is_whole : List Str := ["thing"]
theorem sc_is_whole : FnScope N_is_whole ["thing"] (C8.fnScope s_is_whole) := ⟨rfl, rfl, rfl, by decide +kernel, rfl, by decide +kernel, by decide +kernel⟩
theorem ok_is_whole (T : Bi mg) (Dd : Dn K mg "is_whole" s_is_whole ["thing"]) : P_is_whole P w K mg base := by
  refine cal1 Dd sc_is_whole fun f cdv A outer s H E hr => ⟨_, (pss_cons (ps_ret (pe_and (pe_callB (k_isi K) (by rfl) T.isi (by decide +kernel) (pa_cons (pv 0) (pa_cons (pe_bltn (v := .ty "int") (u := .type "int") (by rfl) T.int (by decide +kernel) rfl) pa_nil))) (pe_one (pe_not (pe_callB (k_isi K) (by rfl) T.isi (by decide +kernel) (pa_cons (pv 0) (pa_cons (pe_bltn (v := .ty "bool") (u := .type "bool") (by rfl) T.bool (by decide +kernel) rfl) pa_nil))))))) pss_nil), ?_⟩
  rintro B D v1 n rfl - ret -
  exact st_retF ret (ev_is (ev_andV (a := true) (b := true) (ev_isi (b := true) ev_var ty_int (by decide +kernel)) fun _ => ev_notV (a := false) (ev_isi (b := false) ev_var ty_int (by decide +kernel))) rfl)
abbrev s_is_within : Stmt := top 40
abbrev N_is_within : List Str := ["thing", "low", "high"]
theorem sc_is_within : FnScope N_is_within ["thing", "low", "high"] (C8.fnScope s_is_within) := ⟨rfl, rfl, rfl, by decide +kernel, rfl, by decide +kernel, by decide +kernel⟩
theorem ok_is_within (T : Bi mg) (Dd : Dn K mg "is_within" s_is_within ["thing", "low", "high"]) (c_is_whole : P_is_whole P w K mg base) : P_is_within P w K mg base := by
  refine cal3 Dd sc_is_within fun f cdv A outer s H E hr => ⟨_, (pss_cons (ps_ret (pe_and (C8.pe_c c_is_whole hr (by decide) (by rfl) (pa_cons (pv 0) pa_nil)) (pe_one (pe_chain op_le op_le (pv 1) (pv 0) (pv 2))))) pss_nil), ?_⟩
  rintro B D v1 v2 v3 n lo hi rfl rfl rfl - ret -
  exact st_retF ret (ev_andV (a := true) (ev_call (ea_cons ev_var ea_nil) trivial) fun _ => ev_chainI ev_var ev_var ev_var)
abbrev s_are_signs : Stmt := top 41
abbrev N_are_signs : List Str := ["text", "signs", "sign"]
theorem sc_are_signs : FnScope N_are_signs ["text", "signs"] (C8.fnScope s_are_signs) := ⟨rfl, rfl, rfl, by decide +kernel, rfl, by decide +kernel, by decide +kernel⟩
theorem ok_are_signs (T : Bi mg) (Dd : Dn K mg "are_signs" s_are_signs ["text", "signs"]) : P_are_signs P w K mg base := by
  refine cal2 Dd sc_are_signs fun f cdv A outer s H E hr => ⟨_, (pss_cons (ps_for PassesOwn.never rfl (pi_str (pv 0)) (pg_name (i := 2) sc_are_signs.nd rfl (Or.inl rfl))
    (pss_cons (ps_if (pt_cmpR o_notInS (pv 2) (pv 1) rfl)
      (pss_cons (ps_ret pe_bl) pss_nil)
      pss_nil) pss_nil)) (
    pss_cons (ps_ret pe_bl) pss_nil)), ?_⟩
  rintro B D v1 v2 x z rfl rfl - ret -
  refine st_forS (s := x) (fun i (γ : Option V) => (x.cps.toList.take i).all (fun c => decide (c ∈ z.cps.toList)) = true) (fun _ => Asr.tt) (fun _ => []) (fun γ => [some (.str x), some (.str z), γ]) ev_var none rfl (fun _ _ => trivial) ?_ ?_
  · intro i c g hx hA
    refine st_if (et_test (ev_ninS ev_varE ev_var)) (fun hb => ?_) (fun hb => ?_)
    · refine st_retF ret ev_bl (all_false (f := fun c => decide (c ∈ z.cps.toList)) (List.mem_of_getElem? hx) (by simpa using hb)).symm
    · exact st_thru (st_turn rfl (some (.str ⟨#[c]⟩)) (all_take_snoc hx hA (by simpa using hb)) (fun _ _ => trivial))
  · intro g hA
    rw [List.take_of_length_le (Nat.le_refl _)] at hA
    exact st_retF ret ev_bl hA.symm
theorem NameOk.slen {s : Str} (h : NameOk s) : s.length ≤ sizeLine := by
  have := h.len
  rw [Array.length_toList] at this
  exact Nat.le_trans (show s.cps.size ≤ 8 from this) (by decide)
abbrev s_is_name : Stmt := top 42
abbrev N_is_name : List Str := ["thing"]
theorem sc_is_name : FnScope N_is_name ["thing"] (C8.fnScope s_is_name) := ⟨rfl, rfl, rfl, by decide +kernel, rfl, by decide +kernel, by decide +kernel⟩
theorem ok_is_name (T : Bi mg) (Dd : Dn K mg "is_name" s_is_name ["thing"]) (c_are_signs : P_are_signs P w K mg base) : P_is_name P w K mg base := by
  refine cal1 Dd sc_is_name fun f cdv A outer s H E hr => ⟨_, (pss_cons (ps_if ((pw_or (pt_not (pt_val (pe_callB (k_isi K) (by rfl) T.isi (by decide +kernel) (pa_cons (pv 0) (pa_cons (pe_bltn (v := .ty "str") (u := .type "str") (by rfl) T.str (by decide +kernel) rfl) pa_nil))))) (pw_or (pt_not (pt_chain op_le op_le pe_int (pe_callB c_lenS (by rfl) T.len (by decide +kernel) (pa_cons (pv 0) pa_nil)) pe_int)) (pw_or1 (pt_not (pt_chain o_leS o_leS pe_str (pe_ix ix_str (pv 0) pe_int (fun _ _ => rfl)) pe_str)))))).pt
    (pss_cons (ps_ret pe_bl) pss_nil)
    pss_nil) (
    pss_cons (ps_ret (C8.pe_c c_are_signs hr (by decide) (by rfl) (pa_cons (pv 0) (pa_cons pe_str pa_nil)))) pss_nil)), ?_⟩
  rintro B D v1 x rfl ok ret -
  have ok : NameOk x := ok
  obtain ⟨c, r, hc, h1, h2⟩ := ok.hd
  have hlen : (1 : Int) ≤ (x.length : Int) ∧ (x.length : Int) ≤ 8 := by
    have h8 := ok.len
    have h0 : x.cps.toList.length = x.length := by rw [Array.length_toList]; rfl
    have h3 : 1 ≤ x.cps.toList.length := by rw [hc]; simp
    omega
  refine st_ifF (et_is (et_or (b := false) (et_not (et_B (ev_isi (b := true) ev_var ty_str (by decide +kernel)))) fun _ => et_is (et_or (b := false) (et_is (et_not (et_test (ev_chainI ev_int (ev_lenS ev_var ok.slen) ev_int))) (b' := false) ?_) fun _ => et_is (et_not (et_test (ev_chainS ev_str (ev_ixS (i := 0) ev_var ev_int rfl ok.slen (by rw [hc]; rfl)) ev_str))) (b' := false) ?_) rfl) rfl) (st_thru ?_)
  · rw [decide_eq_true hlen.1, decide_eq_true hlen.2]
    rfl
  · have e1 : ¬ ([c] < (Str.ofString "a").cps.toList) := by
      show ¬ ([c] < [97])
      intro h
      rw [List.cons_lt_cons_iff] at h
      rcases h with h | ⟨_, h⟩
      · omega
      · exact absurd h (List.not_lt_nil _)
    have e2 : ¬ ((Str.ofString "z").cps.toList < [c]) := by
      show ¬ ([122] < [c])
      intro h
      rw [List.cons_lt_cons_iff] at h
      rcases h with h | ⟨_, h⟩
      · omega
      · exact absurd h (List.not_lt_nil _)
    rw [show (⟨#[c]⟩ : Str).cps.toList = [c] from rfl, decide_eq_false e1, decide_eq_false e2]
    rfl
  · refine st_retF ret (ev_is (ev_call (ea_cons ev_var (ea_cons ev_str ea_nil)) trivial) (x' := true) ?_) rfl
    exact List.all_eq_true.mpr fun c hc => decide_eq_true (ok.all c hc)
abbrev s_head_fault : Stmt := top 45
abbrev N_head_fault : List Str := ["kept", "row", "one"]
theorem sc_head_fault : FnScope N_head_fault ["kept", "row"] (C8.fnScope s_head_fault) := ⟨rfl, rfl, rfl, by decide +kernel, rfl, by decide +kernel, by decide +kernel⟩
theorem ok_head_fault {α : Type} (t : Ty α) (T : Bi mg) (Dd : Dn K mg "head_fault" s_head_fault ["kept", "row"]) (c_is_name : P_is_name P w K mg base) : P_head_fault P w K mg base t := by
  refine cal2 Dd sc_head_fault fun f cdv A outer s H E hr => ⟨_, (pss_cons (ps_if ((pw_or (pt_not (pt_val (pe_callB (k_isi K) (by rfl) T.isi (by decide +kernel) (pa_cons (pv 1) (pa_cons (pe_bltn (v := .ty "tuple") (u := .type "tuple") (by rfl) T.tuple (by decide +kernel) rfl) pa_nil))))) (pw_or1 (pt_cmpR op_ne (pe_callB (k_len K) (by rfl) T.len (by decide +kernel) (pa_cons (pv 1) pa_nil)) pe_int (nomark _))))).pt
    (pss_cons (ps_ret pe_str) pss_nil)
    pss_nil) (
    pss_cons (ps_if (pt_not (pt_val (C8.pe_c c_is_name hr (by decide) (by rfl) (pa_cons (pe_ix (ixT K) (pv 1) pe_int (fun _ _ => rfl)) pa_nil))))
    (pss_cons (ps_ret pe_str) pss_nil)
    pss_nil) (
    pss_cons (ps_if (pt_cmpR (o_in K) (pe_ix (ixT K) (pv 1) pe_int (fun _ _ => rfl)) (pe_lc (own := [("one", 2)]) (g := gName 2) (tt := tYes) (by rfl) sc_head_fault.nd (pi_list (pv 0)) (blkOk_by (own := [("one", 2)]) (N := N_head_fault) (sc := C8.fnScope s_head_fault) (by decide +kernel)) (fun _ _ _ _ _ => (pg_name (i := 2) sc_head_fault.nd rfl (Or.inl rfl))) (fun _ _ _ _ _ => pts_nil) (fun _ _ _ _ _ => (pe_ix (ixT K) (pv 2) pe_int (fun _ _ => rfl)))) rfl)
    (pss_cons (ps_ret pe_str) pss_nil)
    pss_nil) (
    pss_cons (ps_ret pe_non) pss_nil)))), ?_⟩
  rintro B D v1 v2 kept row h1 h2 ⟨hn, hk⟩ ret -
  refine st_ifF (et_is (et_or (b := false) (et_not (et_B (ev_isi (b := true) ev_var ty_pair (by decide +kernel)))) fun _ => et_is (et_test (ev_neI (ev_len2 ev_var) ev_int)) rfl) rfl) (st_thru ?_)
  refine st_ifF (et_is (et_not (et_B (ev_call (ea_cons (ev_fst ev_var) ea_nil) hn))) rfl) (st_thru ?_)
  refine st_ifF (et_is (et_test (ev_inL (xs := keys kept) (ev_fst ev_var) (ev_mapL (u := tStr) (tgN (tPair K tStr t) 2) (·.1) ev_var fun L x ω _ _ => ev_fst ev_var))) (decide_eq_false hk)) (st_thru ?_)
  exact st_retF (y := none) ret ev_optN
abbrev s_is_group : Stmt := top 46
abbrev N_is_group : List Str := ["thing", "name"]
theorem sc_is_group : FnScope N_is_group ["thing"] (C8.fnScope s_is_group) := ⟨rfl, rfl, rfl, by decide +kernel, rfl, by decide +kernel, by decide +kernel⟩
theorem ok_is_group (T : Bi mg) (Dd : Dn K mg "is_group" s_is_group ["thing"]) (c_is_name : P_is_name P w K mg base) : P_is_group P w K mg base := by
  refine cal1 Dd sc_is_group fun f cdv A outer s H E hr => ⟨_, (pss_cons (ps_if ((pw_or (pt_not (pt_val (pe_callB (k_isiT K) (by rfl) T.isi (by decide +kernel) (pa_cons (pv 0) (pa_cons (pe_tup (pa_cons (pe_bltn (v := .ty "list") (u := .type "list") (by rfl) T.list (by decide +kernel) rfl) (pa_cons (pe_bltn (v := .ty "tuple") (u := .type "tuple") (by rfl) T.tuple (by decide +kernel) rfl) pa_nil))) pa_nil))))) (pw_or1 (pt_cmpR op_eq (pe_callB (k_len K) (by rfl) T.len (by decide +kernel) (pa_cons (pv 0) pa_nil)) pe_int (nomark _))))).pt
    (pss_cons (ps_ret pe_bl) pss_nil)
    pss_nil) (
    pss_cons (ps_ret (pe_callB (k_all K rfl) (by rfl) T.all (by decide +kernel) (pa_cons (pe_lc (own := [("name", 1)]) (g := gName 1) (tt := tYes) (by rfl) sc_is_group.nd (pi_tup (pv 0)) (blkOk_by (own := [("name", 1)]) (N := N_is_group) (sc := C8.fnScope s_is_group) (by decide +kernel)) (fun _ _ _ _ _ => (pg_name (i := 1) sc_is_group.nd rfl (Or.inl rfl))) (fun _ _ _ _ _ => pts_nil) (fun _ _ _ _ _ => (C8.pe_c c_is_name hr (by decide) (by rfl) (pa_cons (pv 1) pa_nil)))) pa_nil))) pss_nil)), ?_⟩
  rintro B D v1 g h1 ⟨hne, hn⟩ ret -
  dsimp only at hne hn
  refine st_ifF (et_is (et_or (b := false) (et_not (et_B (ev_isiT (m := "tuple") ev_var ty_tup kitT))) fun _ => et_is (et_test (ev_eqI (ev_lenT ev_var) ev_int)) (decide_eq_false (by
    have := List.length_pos_iff.mpr hne
    omega))) rfl) (st_thru ?_)
  refine st_retF ret (ev_is (ev_all (ev_mapT (u := tBool) (tgN tStr 1) (fun _ => true) ev_var fun L n ω h ho => ?_)) (all_map_true g)) rfl
  have ho : ω = V.str n := ho
  subst ho
  exact ev_call (ea_cons ev_var ea_nil) (hn n h)
abbrev s_names_in : Stmt := top 47
abbrev N_names_in : List Str := ["groups", "found", "group"]
theorem sc_names_in : FnScope N_names_in ["groups"] (C8.fnScope s_names_in) := ⟨rfl, rfl, rfl, by decide +kernel, rfl, by decide +kernel, by decide +kernel⟩
theorem ok_names_in (T : Bi mg) (Dd : Dn K mg "names_in" s_names_in ["groups"]) : P_names_in P w K mg base := by
  refine cal1 Dd sc_names_in fun f cdv A outer s H E hr => ⟨_, (pss_cons (ps_set (i := 1) sc_names_in.nd rfl (Or.inl rfl) (pe_lst pa_nil)) (
    pss_cons (ps_for PassesOwn.never rfl (pi_tup (pv 0)) (pg_name (i := 2) sc_names_in.nd rfl (Or.inl rfl))
    (pss_cons (ps_expr (k_bm K rfl PySem.F.plainAttrs_list PySem.F.slot_list_extend PySem.F.type_list_extend (mt_extT K) (pv 1) (pa_cons (pv 2) pa_nil))) pss_nil)) (
    pss_cons (ps_ret (pv 1)) pss_nil))), ?_⟩
  rintro B D v1 gs h1 hl ret -
  have hl : gs.flatten.length ≤ 10 := hl
  refine st_newL fun pf => ?_
  refine st_forT (tgN (tTup K tStr) 2) (fun i (γ : Option V × List V × List Str) => γ.2.2 = (gs.take i).flatten ∧ γ.2.1.length = γ.2.2.length) (fun γ => itsA tStr γ.2.1 γ.2.2) (fun γ => [(pf, .lst γ.2.1)]) (fun γ => [some v1, some (.ref pf), γ.1])
    ev_var (none, [], []) ⟨rfl, rfl⟩ (fun _ _ => .nil) ?_ ?_
  · rintro L i g ω ⟨o, vs, c⟩ hx ho ⟨hc, hv⟩
    dsimp only at hc hv
    have e1 : gs.take (i + 1) = gs.take i ++ [g] := by rw [List.take_add_one, hx]; rfl
    have e2 : (gs.take (i + 1)).flatten = c ++ g := by rw [e1, List.flatten_append, hc]; simp
    have hle : (c ++ g).length ≤ 10 := by
      rw [← e2]
      refine Nat.le_trans ?_ hl
      conv => rhs; rw [← List.take_append_drop (i + 1) gs, List.flatten_append, List.length_append]
      exact Nat.le_add_right _ _
    refine st_extT (t := tStr) (xs := c) (ys := g) (j := 0) rfl (by
      have : (10 : Nat) ≤ sizeLine := by decide
      show vs.length + g.length ≤ sizeLine
      rw [List.length_append] at hle
      omega) ev_var fun ws hws => ?_
    refine st_turn rfl (some ω, vs ++ ws, c ++ g) ⟨e2.symm, ?_⟩ (fun G m => m.2)
    rw [List.length_append, List.length_append, hv, hws]
  · rintro L ⟨o, vs, c⟩ ⟨hc, hv⟩
    dsimp only at hc hv
    rw [List.take_of_length_le (Nat.le_refl _)] at hc
    refine st_pub (x := c) (t := tLst K tStr) (pub_lK (by rw [hc]; exact Nat.le_trans hl (by decide))) (st_retF ret ev_var hc)
abbrev s_groups_shaped : Stmt := top 49
abbrev N_groups_shaped : List Str := ["groups", "group"]
theorem sc_groups_shaped : FnScope N_groups_shaped ["groups"] (C8.fnScope s_groups_shaped) := ⟨rfl, rfl, rfl, by decide +kernel, rfl, by decide +kernel, by decide +kernel⟩
theorem ok_groups_shaped (T : Bi mg) (Dd : Dn K mg "groups_shaped" s_groups_shaped ["groups"]) : P_groups_shaped P w K mg base := by
  refine cal1 Dd sc_groups_shaped fun f cdv A outer s H E hr => ⟨_, (pss_cons (ps_ret (pe_callTy (k_tuple K) (by rfl) T.tuple (by decide +kernel) (pa_cons (pe_lc (own := [("group", 1)]) (g := gName 1) (tt := tYes) (by rfl) sc_groups_shaped.nd (pi_tup (pv 0)) (blkOk_by (own := [("group", 1)]) (N := N_groups_shaped) (sc := C8.fnScope s_groups_shaped) (by decide +kernel)) (fun _ _ _ _ _ => (pg_name (i := 1) sc_groups_shaped.nd rfl (Or.inl rfl))) (fun _ _ _ _ _ => pts_nil) (fun _ _ _ _ _ => (pe_callTy (k_tuple K) (by rfl) T.tuple (by decide +kernel) (pa_cons (pv 1) pa_nil)))) pa_nil))) pss_nil), ?_⟩
  rintro B D v1 gs h1 - ret -
  exact st_retF ret (ev_is (ev_tupleL (ev_mapT (u := tTup K tStr) (tgN (tTup K tStr) 1) id ev_var fun L g ω _ _ => ev_tupleT ev_var)) (List.map_id _)) rfl
abbrev s_many_fault : Stmt := top 50
abbrev N_many_fault : List Str := ["kept", "many"]
theorem sc_many_fault : FnScope N_many_fault ["kept", "many"] (C8.fnScope s_many_fault) := ⟨rfl, rfl, rfl, by decide +kernel, rfl, by decide +kernel, by decide +kernel⟩
theorem ok_many_fault (T : Bi mg) (Dd : Dn K mg "many_fault" s_many_fault ["kept", "many"]) (c_is_within : P_is_within P w K mg base) : P_many_fault P w K mg base := by
  refine cal2 Dd sc_many_fault fun f cdv A outer s H E hr => ⟨_, (pss_cons (ps_ret (pe_ifExp (pt_val (C8.pe_c c_is_within hr (by decide) (by rfl) (pa_cons (pv 1) (pa_cons pe_int (pa_cons pe_int pa_nil))))) pe_non pe_str)) pss_nil), ?_⟩
  rintro B D v1 v2 kept n h1 rfl hn ret -
  have hn : 1 ≤ n ∧ n ≤ 4 := hn
  refine st_retF (y := none) ret (ev_if (b := true) (et_is (et_B (ev_call (ea_cons ev_var (ea_cons ev_int (ea_cons ev_int ea_nil))) trivial)) (by dsimp only; rw [decide_eq_true hn.1, decide_eq_true hn.2]; rfl)) (fun _ => ev_optN) (fun h => (nomatch h))) rfl
abbrev s_many_shaped : Stmt := top 51
abbrev N_many_shaped : List Str := ["many"]
theorem sc_many_shaped : FnScope N_many_shaped ["many"] (C8.fnScope s_many_shaped) := ⟨rfl, rfl, rfl, by decide +kernel, rfl, by decide +kernel, by decide +kernel⟩
theorem ok_many_shaped (Dd : Dn K mg "many_shaped" s_many_shaped ["many"]) : P_many_shaped P w K mg base := by
  refine cal1 Dd sc_many_shaped fun f cdv A outer s H E hr => ⟨_, (pss_cons (ps_ret (pv 0)) pss_nil), ?_⟩
  rintro B D v1 n h1 - ret -
  exact st_retF ret ev_var
abbrev s_groups_fault : Stmt := top 48
abbrev N_groups_fault : List Str := ["kept", "groups", "group", "names", "at", "name"]
theorem sc_groups_fault : FnScope N_groups_fault ["kept", "groups"] (C8.fnScope s_groups_fault) := ⟨rfl, rfl, rfl, by decide +kernel, rfl, by decide +kernel, by decide +kernel⟩
theorem ok_groups_fault (T : Bi mg) (Dd : Dn K mg "groups_fault" s_groups_fault ["kept", "groups"]) (c_is_group : P_is_group P w K mg base) (c_names_in : P_names_in P w K mg base) : P_groups_fault P w K mg base := by
  refine cal2 Dd sc_groups_fault fun f cdv A outer s H E hr => ⟨_, (pss_cons (ps_if ((pw_or (pt_not (pt_val (pe_callB (k_isiT K) (by rfl) T.isi (by decide +kernel) (pa_cons (pv 1) (pa_cons (pe_tup (pa_cons (pe_bltn (v := .ty "list") (u := .type "list") (by rfl) T.list (by decide +kernel) rfl) (pa_cons (pe_bltn (v := .ty "tuple") (u := .type "tuple") (by rfl) T.tuple (by decide +kernel) rfl) pa_nil))) pa_nil))))) (pw_or1 (pt_not (pt_val (pe_callB (k_all K rfl) (by rfl) T.all (by decide +kernel) (pa_cons (pe_lc (own := [("group", 2)]) (g := gName 2) (tt := tYes) (by rfl) sc_groups_fault.nd (pi_tup (pv 1)) (blkOk_by (own := [("group", 2)]) (N := N_groups_fault) (sc := C8.fnScope s_groups_fault) (by decide +kernel)) (fun _ _ _ _ _ => (pg_name (i := 2) sc_groups_fault.nd rfl (Or.inl rfl))) (fun _ _ _ _ _ => pts_nil) (fun _ _ _ _ _ => (C8.pe_c c_is_group hr (by decide) (by rfl) (pa_cons (pv 2) pa_nil)))) pa_nil))))))).pt
    (pss_cons (ps_ret pe_str) pss_nil)
    pss_nil) (
    pss_cons (ps_set (i := 3) sc_groups_fault.nd rfl (Or.inl rfl) (C8.pe_c c_names_in hr (by decide) (by rfl) (pa_cons (pv 1) pa_nil))) (
    pss_cons (ps_for PassesOwn.never rfl (pi_enum (by rfl) T.enum (pa_cons (pv 3) pa_nil)) (pg_tup rfl (pgs_cons (pg_name (i := 4) sc_groups_fault.nd rfl (Or.inl rfl)) (pgs_cons (pg_name (i := 5) sc_groups_fault.nd rfl (Or.inl rfl)) pgs_nil)))
    (pss_cons (ps_if (pt_cmpR (o_in K) (pv 5) (pe_slice sl_list (pv 3) po_none (po_some (pv 4))) rfl)
      (pss_cons (ps_ret pe_str) pss_nil)
      pss_nil) pss_nil)) (
    pss_cons (ps_ret pe_non) pss_nil)))), ?_⟩
  rintro B D v1 v2 kept gs h1 h2 ok ret -
  have ok : GOk gs := ok
  refine st_ifF (et_is (et_or (b := false) (et_not (et_B (ev_isiT (m := "tuple") ev_var ty_tup kitT))) fun _ => et_is (et_not (et_B (ev_is (ev_all (ev_mapT (u := tBool) (tgN (tTup K tStr) 2) (fun _ => true) ev_var fun L g ω h ho => ev_call (ea_cons ev_var ea_nil) (ok.ne g h))) (all_map_true gs)))) rfl) rfl) (st_thru ?_)
  refine st_asg (ev_call (ea_cons ev_var ea_nil) ok.len) fun v3 _ => ?_
  refine st_forE (tgP K tInt tStr 4 5) (fun i (γ : Option V × Option V) => True) (fun _ => Asr.tt) (fun _ => []) (fun γ => [some v1, some v2, none, some v3, γ.1, γ.2]) (ea_cons ev_var ea_nil) (none, none) trivial (fun _ _ => trivial) ?_ ?_
  · rintro L i n ⟨w1, w2⟩ c hx ⟨o1, o2⟩ -
    have o1 : w1 = V.int (i : Int) := o1
    have o2 : w2 = V.str n := o2
    subst o1 o2
    refine st_ifF (et_is (et_test (ev_inL (xs := gs.flatten.take i) (k := n) ev_var (ev_slTo (i := i) ev_var ev_var (Nat.le_of_lt (List.getElem?_eq_some_iff.mp hx).1)))) (decide_eq_false (not_mem_take ok.nd hx))) (st_thru (st_turn rfl (some (.int i), some (.str n)) trivial (fun _ _ => trivial)))
  · intro L c _
    exact st_retF (y := none) ret ev_optN
abbrev s_need_known : Stmt := top 52
abbrev N_need_known : List Str := ["part", "rows", "names", "at", "row", "name"]
theorem sc_need_known : FnScope N_need_known ["part", "rows", "names"] (C8.fnScope s_need_known) := ⟨rfl, rfl, rfl, by decide +kernel, rfl, by decide +kernel, by decide +kernel⟩
theorem ok_need_known (T : Bi mg) (Dd : Dn K mg "need_known" s_need_known ["part", "rows", "names"]) (c_names_in : P_names_in P w K mg base) : P_need_known P w K mg base := by
  refine cal3 Dd sc_need_known fun f cdv A outer s H E hr => ⟨_, (pss_cons (ps_for PassesOwn.never rfl (pi_enumT (by rfl) T.enum (pa_cons (pv 1) pa_nil)) (pg_tup rfl (pgs_cons (pg_name (i := 3) sc_need_known.nd rfl (Or.inl rfl)) (pgs_cons (pg_name (i := 4) sc_need_known.nd rfl (Or.inl rfl)) pgs_nil)))
    (pss_cons (ps_for PassesOwn.never rfl (pi_list (C8.pe_c c_names_in hr (by decide) (by rfl) (pa_cons (pe_ix (ixT K) (pv 4) pe_int (fun _ _ => rfl)) pa_nil))) (pg_name (i := 5) sc_need_known.nd rfl (Or.inl rfl))
      (pss_cons (ps_if (pt_cmpR (o_nin K) (pv 5) (pv 2) rfl)
        (pss_cons ps_never pss_nil)
        pss_nil) pss_nil)) pss_nil)) pss_nil), ?_⟩
  rintro B D v1 v2 v3 part rows names h1 h2 h3 hk ret hn
  have hk : ∀ r ∈ rows, r.2.flatten.length ≤ 10 ∧ ∀ n ∈ r.2.flatten, n ∈ names := hk
  refine st_forET (tgP K tInt (tPair K tStr (tGrps K)) 3 4) (fun i (γ : Option V × Option V × Option V) => True) (fun _ => Asr.tt) (fun _ => []) (fun γ => [some v1, some v2, some v3, γ.1, γ.2.1, γ.2.2]) (ea_cons ev_var ea_nil) (none, none, none) trivial (fun _ _ => trivial) ?_ ?_
  · rintro L i r ⟨w1, w2⟩ ⟨o3, o4, o5⟩ hx ⟨o1, o2⟩ -
    obtain ⟨k1, k2⟩ := hk r (List.mem_of_getElem? hx)
    refine st_forL (tgN tStr 5) (fun i (γ : Option V) => True) (fun _ => Asr.tt) (fun _ => []) (fun γ => [some v1, some v2, some v3, some w1, some w2, γ]) (ev_call (ea_cons (ev_snd ev_var) ea_nil) k1) o5 trivial (fun _ _ => trivial) ?_ ?_
    · intro L2 j n ω c hx2 ho _
      have ho : ω = V.str n := ho
      subst ho
      exact st_ifF (et_is (et_test (ev_ninL (xs := names) (k := n) ev_var ev_var)) (by rw [decide_eq_true (k2 n (List.mem_of_getElem? hx2))]; rfl)) (st_thru (st_turn rfl (some (.str n)) trivial (fun _ _ => trivial)))
    · intro L2 c _
      exact st_turn rfl (some w1, some w2, c) trivial (fun _ _ => trivial)
  · rintro L c -
    exact st_end fun G H m e w => hn _ _ (ret _ () G H e rfl rfl)
end
end G3
set_option maxRecDepth 100000
set_option maxHeartbeats 4000000
/-! G17: defs of five parameters; an instance is made. -/
namespace G3
open PySem PySem.Spec PyProof.Rows L2
def Z5 {α1 α2 α3 α4 α5 β : Type} (t1 : Ty α1) (t2 : Ty α2) (t3 : Ty α3) (t4 : Ty α4) (t5 : Ty α5) (pre : α1 × α2 × α3 × α4 × α5 × Unit → Prop) (u : Ty β) (R : α1 × α2 × α3 × α4 × α5 × Unit → β → Prop) (N : List Str) (t : TS) : Prop :=
  ∀ (B : Bs) (D : Ends) (v1 v2 v3 v4 v5 : V) (x1 : α1) (x2 : α2) (x3 : α3) (x4 : α4) (x5 : α5), t1.ok v1 x1 → t2.ok v2 x2 → t3.ok v3 x3 → t4.ok v4 x4 → t5.ok v5 x5 → pre (x1, x2, x3, x4, x5, ()) → RetOk B u (R (x1, x2, x3, x4, x5, ())) D → (∀ σ H, D.rt .non H → D.nx σ H) →
    St B (((((Asr.tt.is t1 v1 x1).is t2 v2 x2).is t3 v3 x3).is t4 v4 x4).is t5 v5 x5) [] t D (start N [v1, v2, v3, v4, v5])
section
variable {P : Program} {w : World} {K : PySem.W.Frag} {mg : Str → Option Value} {base : Heap} {x qual : Str} {st : Stmt} {N ps : List Str} {k : Nat} {α1 α2 α3 α4 α5 β ι : Type} {u : Ty β}
theorem cal5 {t1 : Ty α1} {t2 : Ty α2} {t3 : Ty α3} {t4 : Ty α4} {t5 : Ty α5} {pre : α1 × α2 × α3 × α4 × α5 × Unit → Prop} {R : α1 × α2 × α3 × α4 × α5 × Unit → β → Prop} {p1 p2 p3 p4 p5 : Str} (Dd : Dn K mg x st [p1, p2, p3, p4, p5]) (S : FnScope N [p1, p2, p3, p4, p5] (C8.fnScope st)) (h : Body P w K mg base N x st k (Z5 t1 t2 t3 t4 t5 pre u R N)) :
    C8.Cal P w K mg base (k + 1) x (SpR (aCons t1 (aCons t2 (aCons t3 (aCons t4 (aCons t5 aNil))))) pre u R) [] := by
  obtain ⟨f, fd, Df, b⟩ := Dd.ex
  refine ⟨f, fd, _, [], fn_sp Df.fn S (fun G vs i ⟨v1, _, e1, _, v2, _, e3, _, v3, _, e4, _, v4, _, e5, _, v5, _, e6, _, e2⟩ => by subst e1 e3 e4 e5 e6; have : _ = _ := e2; subst this; rfl) fun cdv A' outer s H E hr => ?_, Df.mgf, Df.kp, b, .nil⟩
  obtain ⟨t, ht, z⟩ := h f cdv A' outer s H E hr
  refine ⟨t, ht, fun G vs i D l a p q n => ?_⟩
  obtain ⟨v1, _, rfl, h1, v2, _, rfl, h2, v3, _, rfl, h3, v4, _, rfl, h4, v5, _, rfl, h5, e2⟩ := a
  have e3 : _ = _ := e2
  subst e3
  exact st_start (z (Bs.of G H) D v1 v2 v3 v4 v5 i.1 i.2.1 i.2.2.1 i.2.2.2.1 i.2.2.2.2.1 (t1.of h1) (t2.of h2) (t3.of h3) (t4.of h4) (t5.of h5) p q n) ⟨⟨⟨⟨⟨trivial, h1⟩, h2⟩, h3⟩, h4⟩, h5⟩ l
end
/-! ### making -/
structure ExI (a : Addr) (G H G' H' : Hp) : Prop where
  gg : ∀ b, b ≠ a → (H b).isSome = true → G' b = G b
  hh : ∀ b o, b ≠ a → H b = some o → H' b = some o
  gh : Le G' H'
theorem ExI.trans {a : Addr} {G H G1 H1 G2 H2 : Hp} (x : ExI a G H G1 H1) (y : ExI a G1 H1 G2 H2) : ExI a G H G2 H2 := by
  refine ⟨fun b hb h => ?_, fun b o hb h => y.hh b o hb (x.hh b o hb h), y.gh⟩
  obtain ⟨o, ho⟩ := Option.isSome_iff_exists.mp h
  rw [y.gg b hb (by rw [x.hh b o hb ho]; rfl), x.gg b hb h]
def Bs.ins (G0 H0 : Hp) (a : Addr) : Bs where
  R := ExI a G0 H0
  own := fun p => H0 p = none ∨ p = a
  le := fun e => e.gh
  ext := fun {G H G' H'} e y => ⟨fun b hb h => by
    obtain ⟨o, ho⟩ := Option.isSome_iff_exists.mp h
    rw [y.gg b (by rw [e.hh b o hb ho]; rfl), e.gg b hb h], fun b o hb h => y.hh b o (e.hh b o hb h), y.gh⟩
  set := fun {G H p o} hp e g => ⟨e.gg, fun b u hb h => by
    have ne : b ≠ p := fun z => by
      rcases hp with hp | hp
      · rw [z, hp] at h
        cases h
      · exact hb (z.trans hp)
    rw [upd_ne ne]
    exact e.hh b u hb h, e.gh.owned g⟩
  new := fun {G H p} e hp => by
    by_cases z : p = a
    · exact .inr z
    · left
      cases q : H0 p with
      | none => rfl
      | some o =>
        rw [e.hh p o z q] at hp
        cases hp
  pub := fun {G H p o} hp e hh g => ⟨fun b hb h => by
    have ne : b ≠ p := fun z => by
      rcases hp with hp | hp
      · rw [z, hp] at h
        cases h
      · exact hb (z.trans hp)
    rw [upd_ne ne]
    exact e.gg b hb h, e.hh, fun b u hb => by
    by_cases z : b = p
    · subst z
      rw [upd_same] at hb
      rw [← hb]
      exact .inl hh
    · rw [upd_ne z] at hb
      exact e.gh b u hb⟩
def SpI {ι : Type} (K : PySem.W.Frag) (C : Addr) (A : TyA ι) (pre : ι → Prop) (F : ι → Wo) : Sp := fun vs H Q _ => ∃ G a dx vs' i, vs = .ref a :: vs' ∧ Le G H ∧ G a = none ∧ H a = some (.ins C dx []) ∧ A.r G vs' i ∧ pre i ∧ ∀ G' H', ExI a G H G' H' → (tHeld K C).r G' (.ref a) (F i) → Q .non H'
section
variable {P : Program} {w : World} {K : PySem.W.Frag} {mg : Str → Option Value} {base : Heap} {x qual : Str} {st : Stmt} {N ps : List Str} {k : Nat} {ι : Type} {C : Addr}
theorem init_sp {A : TyA ι} {pre : ι → Prop} {F : ι → Wo} {f : Addr} {fd : FuncData} (Fn : C8.Fun K x qual st f fd) (S : FnScope N ps (C8.fnScope st)) (hl : ∀ G vs i, A.r G vs i → vs.length + 1 = ps.length)
    (hbody : ∀ (cdv : Value) (A' : Around) (outer : List Env) (s : Shared) (H : Hp) (E : XK), Room k (A'.deeper (envOfC qual (C8.fnScope st) s.heap.objs.size f cdv)) →
      ∃ t, PSs (cxOf C8.CX0 P w K mg base N qual (C8.fnScope st) f cdv A' outer s H E).nox (C8.fnBody st) t ∧ ∀ (G : Hp) (a dx : Addr) (vs : List V) (i : ι) (D : Ends), Le G H → G a = none → H a = some (.ins C dx []) → A.r G vs i → pre i → (∀ σ G' H', ExI a G H G' H' → (tHeld K C).r G' (.ref a) (F i) → D.nx σ H') → t D (start N (.ref a :: vs)) H) :
    FnOk P w K mg base C8.CX0 (k + 1) f fd ps (SpI K C A pre F) := by
  refine C8.fn0 Fn S (fun vs H Q E ⟨G, a, dx, vs', i, e, _, _, _, h, _⟩ => by rw [e, List.length_cons]; exact hl G vs' i h) fun cdv A' outer s H vs Q E hr h => ?_
  obtain ⟨t, ht, z⟩ := hbody cdv A' outer s H E hr
  obtain ⟨G, a, dx, vs', i, e, l, g, hh, ar, p, q⟩ := h
  subst e
  exact ⟨t, ht, z G a dx vs' i _ l g hh ar p fun _ G' H' ex r => q G' H' ex r⟩
end
section
variable {B : Bs} {M : Asr} {O : List (Addr × HO)} {σ : L2.St} {K : PySem.W.Frag} {α β ι : Type} {t : Ty α} {u : Ty β} {te : TE} {tz : TS} {D : Ends} {A : TyA ι} {E : XK} {i j : Nat} {a C dx : Addr} {fs : List (Str × V)} {x : α}
theorem st_ins {G H : Hp} {ts : TS} (h : St (Bs.ins G H a) M [(a, .ins C dx [])] ts D σ) (m : M.p G) (l : Le G H) (g : G a = none) (hh : H a = some (.ins C dx [])) : ts D σ H :=
  h G H m ⟨fun _ _ _ => rfl, fun _ _ _ z => z, l⟩ ⟨List.nodup_cons.mpr ⟨by simp, List.nodup_nil⟩, fun po hm => by rw [List.mem_singleton.mp hm]; exact ⟨.inr rfl, g, hh⟩⟩
/-- self.f = e -/
theorem st_fldO {f : Str} (hO : O[j]? = some (a, .ins C dx fs)) (c : Cls K C) (n : NoAttr K C f) (hl : fs.length < 1000) (hv : Ev M O σ t te x) (k : ∀ v, t.ok v x → St B (M.is t v x) (O.set j (a, .ins C dx (putF f v fs))) tz D σ) (hs : σ[i]? = some (some (.ref a)) := by rfl) :
    St B M O (tSeq (sFld K (tVar i) te f) tz) D σ := fun G H m e w =>
  hv G H m (w.wl e) _ fun v G1 H1 e1 r1 => ⟨_, hs, by
    have eB := B.ext e e1
    have w1 := w.ext e1
    obtain ⟨o1, o2, o3⟩ := w1.at_ hO
    exact ⟨a, C, dx, fs, rfl, o3, c, n, hl, k v (t.of r1) G1 _ ⟨M.mono (e1.le (B.le e)) m, r1⟩ (B.set o1 eB o2) (w1.set hO)⟩⟩
/-- self.m(..), where nothing is asked of self -/
theorem ev_methO {m : Str} {tr : TA} {y : ι} {pre : Unit × ι → Prop} {F : Unit × ι → β} (hO : O[j]? = some (a, .ins C dx fs)) (hm : fs.lookup m = none) (ha : EvA M O σ A tr y) (hp : pre ((), y)) (hs : σ[i]? = some (some (.ref a)) := by rfl) :
    Ev M O σ u (tMeth C m (SpF (aCons tAny A) pre u F) [] E (tVar i) tr) (F ((), y)) := fun G H mm l Q q =>
  ⟨_, hs, a, dx, fs, rfl, l.at_ hO, hm, ha G H mm l _ fun vs G2 H2 e2 r2 => by
    rw [List.append_nil]
    exact ⟨G2, ((), y), e2.gh, ⟨_, vs, rfl, trivial, r2⟩, hp, fun v z G3 H3 e3 hR r3 => q v G3 H3 (e2.trans e3) (hR ▸ r3)⟩⟩
/-- .. as a visible thing -/
theorem ev_methV {m : Str} {tr : TA} {y : ι} {pre : Unit × ι → Prop} {F : Unit × ι → β} {ta : TE} {W : Wo} (ho : Ev M O σ (tHeld K C) ta W) (ha : EvA M O σ A tr y) (hp : pre ((), y)) (h1 : ¬ m = "spots" := by decide +kernel) (h2 : ¬ m = "folk" := by decide +kernel) :
    Ev M O σ u (tMeth C m (SpF (aCons tAny A) pre u F) [] E ta tr) (F ((), y)) := fun G H mm l Q q => ho G H mm l _ fun v G1 H1 e1 r1 => by
  obtain ⟨a, dx, f, s, ev, hh, g1, g2⟩ := id r1
  refine ⟨a, dx, _, ev, e1.gh.ins hh, hfs_no f s h1 h2, ha G1 H1 (M.mono (e1.le l.le) mm) (l.ext e1) _ fun vs G2 H2 e2 r2 => ?_⟩
  rw [List.append_nil]
  exact ⟨G2, ((), y), e2.gh, ⟨v, vs, rfl, trivial, r2⟩, hp, fun v z G3 H3 e3 hR r3 => q v G3 H3 ((e1.trans e2).trans e3) (hR ▸ r3)⟩
/-- Held(..) -/
theorem ev_make {pre : ι → Prop} {F : ι → Wo} {tr : TA} {y : ι} (ha : EvA M O σ A tr y) (hp : pre y) : Ev M O σ (tHeld K C) (tMake C (SpI K C A pre F) [] E tr) (F y) := fun G H m l Q q => ha G H m l _ fun vs G1 H1 e1 r1 => by
  intro x dx hx hd ne
  rw [List.append_nil]
  have gx := e1.gh.free hx
  have gd := e1.gh.free hd
  refine ⟨G1, x, dx, vs, y, rfl, (e1.gh.owned gd).owned gx, gx, upd_same, r1, hp, fun G' H' ex r => ⟨rfl, ?_⟩⟩
  have keep : ∀ b o, H1 b = some o → b ≠ x ∧ (upd (upd H1 dx (.own x)) x (.ins C dx [])) b = some o := fun b o h => by
    have n1 : b ≠ x := ne_of_none h hx
    have n2 : b ≠ dx := ne_of_none h hd
    exact ⟨n1, by rw [upd_ne n1, upd_ne n2]; exact h⟩
  refine q _ G' H' (e1.trans ⟨fun b hb => ?_, fun b o hb => ?_, ex.gh⟩) r
  · obtain ⟨o, ho⟩ := Option.isSome_iff_exists.mp hb
    obtain ⟨n1, h2⟩ := keep b o ho
    exact ex.gg b n1 (by rw [h2]; rfl)
  · obtain ⟨n1, h2⟩ := keep b o hb
    exact ex.hh b o n1 h2
end
/-! ### Base.__init__(self, ..) -/
def tCInit (C : Addr) (sp : Sp) (dvs : List V) (E : XK) (ta : TE) (t : TA) : TE := fun σ H Q => ta σ H fun x H1 => x = .ref C ∧ t σ H1 fun vs H2 => sp (vs ++ dvs) H2 Q E
section
variable {X : Cx} {CX : CXT} {k : Nat} {C f : Addr} {fd : FuncData} {ps : List Str} {ds : List Value} {dvs : List V} {mc : Value} {sp : Sp} {E : XK} {o e : Expr} {es : List Expr} {m : Str} {pos apos : Pos} {ta : TE} {t : TA} {pl : Sem Bool}
theorem pe_cinit (he : PE X o ta) (r : ClX.CRead X.K C mc) (c : ClX.CVal X.K C mc m (.ref f) (.ref f)) (kp : PySem.W.keepIn X.K (.ref f) = true) (F : FnOk X.prog X.w X.K X.mg X.base CX k f fd ps sp) (hr : Room k X.A) (hb : Binds X.K fd ps ds) (hd : Vals dvs ds) (hx : Passes CX X E) (ha : PA X (e :: es) t)
    (hst : starEach (e :: es) X.env = (false, eval e X.env) :: starEach es X.env := by rfl) (hpl : (backTo pos (starEach es X.env)).any (·.1) = false := by rfl)
    (ht : eval (.Call (.Attribute o m apos) (e :: es) [] pos) X.env = (do
      let ov ← eval o X.env
      standAt apos.atName
      let (f, first) ← holding [ov] (getMethod ov m pl)
      callWith pos f first (backTo pos (starEach (e :: es) X.env)) (backToKw pos (keywordEach [] X.env))) := by rfl) :
    PE X (.Call (.Attribute o m apos) (e :: es) [] pos) (tCInit C sp dvs E ta t) := by
  refine ⟨fun pins s σ H Q I h => ?_⟩
  refine PySem.W.methodCall_KW (pl := pl) (thn (he.run pins s σ H _ I h) fun u s1 ⟨x, H1, I1, rx, ex, q⟩ => ?_) ht
  subst ex
  obtain rfl : u = Value.ref C := rx
  refine PySem.W.method_cls I1.kIn r.ga (ClX.getcval_ok I1 r c fun s2 I2 => ?_)
  refine PySem.W.callWith_K (first := []) (h₀ := X.base) I.ok.mod.kin kp (thn (ha.run pos pins s2 σ H1 _ I2 q) fun us s3 ⟨vs, H2, I3, rv, q2⟩ => ⟨I3.kIn, ?_⟩) hst hpl
  exact run_fn F hr hb hd hx I3 rv q2
end
end G3
set_option maxRecDepth 100000
set_option maxHeartbeats 4000000
/-! F10: Held is made. -/
namespace G3
open PySem PySem.Spec PyProof.Rows L2
structure RowsOk {α : Type} (good : α → Prop) (rows : List (Str × α)) : Prop where
  nd : (keys rows).Nodup
  len : rows.length ≤ 10
  ok : ∀ r ∈ rows, NameOk r.1 ∧ good r.2
structure PreW (W : Wo) : Prop where
  rows : RowsOk GOk W.rows
  spots : RowsOk (fun n : Int => 1 ≤ n ∧ n ≤ 4) W.spots
  known : ∀ r ∈ W.rows, ∀ n ∈ r.2.flatten, n ∈ W.places
section
variable (P : Program) (w : World) (K : PySem.W.Frag) (mg : Str → Option Value) (base : Heap) (C : Addr)
abbrev P_checked {α : Type} (t : Ty α) (good : α → Prop) (nF nS : Str) : Prop := ∃ ff fs, mg nF = some (.ref ff) ∧ mg nS = some (.ref fs) ∧
  C8.Cal P w K mg base 5 "checked" (SpF (aCons tStr (aCons (tLst K (tPair K tStr t)) (aCons tInt (aCons (tFn ff) (aCons (tFn fs) aNil))))) (fun i => i.2.2.1 = 10 ∧ RowsOk good i.2.1) (tTup K (tPair K tStr t)) fun i => i.2.1) []
abbrev P_checked_places : Prop := C8.Met P w K mg base 6 C "checked_places" (SpF (aCons tAny (aCons (tLst K (tPair K tStr tInt)) aNil)) (fun i => RowsOk (fun n : Int => 1 ≤ n ∧ n ≤ 4) i.2.1) (tTup K (tPair K tStr tInt)) fun i => i.2.1) []
abbrev P_need_known_people : Prop := C8.Met P w K mg base 1 C "need_known_people" (SpF (aCons tAny aNil) (fun _ => True) tNon fun _ => ()) []
abbrev initA : TyA (List (Str × List (List Str)) × List (Str × Int) × Unit) := aCons (tLst K (tPair K tStr (tGrps K))) (aCons (tLst K (tPair K tStr tInt)) aNil)
abbrev initSp : Sp := SpI K C (initA K) (fun i => PreW ⟨i.1, i.2.1⟩) fun i => ⟨i.1, i.2.1⟩
abbrev P_Held : Prop := C8.Mak P w K mg base 8 "Held" C (initSp K C) []
end
section
variable {P : Program} {w : World} {K : PySem.W.Frag} {mg : Str → Option Value} {base : Heap} {C : Addr}
abbrev s_checked : Stmt := top 44
abbrev N_checked : List Str := ["part", "rows", "most", "fault", "shaped", "kept", "at", "row", "why"]
theorem sc_checked : FnScope N_checked ["part", "rows", "most", "fault", "shaped"] (C8.fnScope s_checked) := ⟨rfl, rfl, rfl, by decide +kernel, rfl, by decide +kernel, by decide +kernel⟩
theorem ok_checked {α : Type} {t : Ty α} {good : α → Prop} {nF nS : Str} {kf ks : Nat} (hkf : kf ≤ 4) (hks : ks ≤ 4) (T : Bi mg) (Dd : Dn K mg "checked" s_checked ["part", "rows", "most", "fault", "shaped"]) (c_head_fault : P_head_fault P w K mg base t)
    (c_fault : C8.Cal P w K mg base kf nF (SpF (aCons tAny (aCons t aNil)) (fun i => good i.2.1) (tOpt V.str) fun _ => none) []) (c_shaped : C8.Cal P w K mg base ks nS (SpF (aCons t aNil) (fun i => good i.1) t fun i => i.1) []) : P_checked P w K mg base t good nF nS := by
  obtain ⟨ff, fdf, psf, dsf, F_fault, mf, kp_fault, b_fault, d_fault⟩ := c_fault.ex
  obtain ⟨fs, fds, pss, dss, F_shaped, ms, kp_shaped, b_shaped, d_shaped⟩ := c_shaped.ex
  refine ⟨ff, fs, mf, ms, cal5 Dd sc_checked fun f cdv A outer s H E hr => ?_⟩
  have r_fault := hr.mono hkf
  have r_shaped := hr.mono hks
  refine ⟨_, (pss_cons (ps_if (pt_not (pt_val (pe_callB (k_isiT K) (by rfl) T.isi (by decide +kernel) (pa_cons (pv 1) (pa_cons (pe_tup (pa_cons (pe_bltn (v := .ty "list") (u := .type "list") (by rfl) T.list (by decide +kernel) rfl) (pa_cons (pe_bltn (v := .ty "tuple") (u := .type "tuple") (by rfl) T.tuple (by decide +kernel) rfl) pa_nil))) pa_nil)))))
    (pss_cons ps_never pss_nil)
    pss_nil) (
    pss_cons (ps_if (pt_cmpR op_gt (pe_callB (k_len K) (by rfl) T.len (by decide +kernel) (pa_cons (pv 1) pa_nil)) (pv 2) (nomark _))
    (pss_cons ps_never pss_nil)
    pss_nil) (
    pss_cons (ps_set (i := 5) sc_checked.nd rfl (Or.inl rfl) (pe_lst pa_nil)) (
    pss_cons (ps_for PassesOwn.never rfl (pi_enum (by rfl) T.enum (pa_cons (pv 1) pa_nil)) (pg_tup rfl (pgs_cons (pg_name (i := 6) sc_checked.nd rfl (Or.inl rfl)) (pgs_cons (pg_name (i := 7) sc_checked.nd rfl (Or.inl rfl)) pgs_nil)))
    (pss_cons (ps_set (i := 8) sc_checked.nd rfl (Or.inl rfl) (C8.pe_c c_head_fault hr (by decide) (by rfl) (pa_cons (pv 5) (pa_cons (pv 7) pa_nil)))) (
      pss_cons (ps_if (pt_cmpR o_isN (pv 8) pe_non (nomark _))
      (pss_cons (ps_set (i := 8) sc_checked.nd rfl (Or.inl rfl) (pe_callL (i := 3) F_fault r_fault rfl (Or.inl rfl) kp_fault b_fault d_fault (C8.pass0 (E := C8.E0)) (pa_cons (pv 5) (pa_cons (pe_ix (ixT K) (pv 7) pe_int (fun _ _ => rfl)) pa_nil)))) pss_nil)
      pss_nil) (
      pss_cons (ps_if (pt_cmpR o_notN (pv 8) pe_non (nomark _))
      (pss_cons ps_never pss_nil)
      pss_nil) (
      pss_cons (ps_expr (k_bm K rfl PySem.F.plainAttrs_list PySem.F.slot_list_append PySem.F.type_list_append mt_append (pv 5) (pa_cons (pe_tup (pa_cons (pe_ix (ixT K) (pv 7) pe_int (fun _ _ => rfl)) (pa_cons (pe_callL (i := 4) F_shaped r_shaped rfl (Or.inl rfl) kp_shaped b_shaped d_shaped (C8.pass0 (E := C8.E0)) (pa_cons (pe_ix (ixT K) (pv 7) pe_int (fun _ _ => rfl)) pa_nil)) pa_nil))) pa_nil))) pss_nil))))) (
    pss_cons (ps_ret (pe_callTy (k_tuple K) (by rfl) T.tuple (by decide +kernel) (pa_cons (pv 5) pa_nil))) pss_nil))))), ?_⟩
  rintro B D v1 v2 v3 v4 v5 part rows most u4 u5 h1 h2 rfl rfl rfl ⟨hm, ok⟩ ret -
  have hm : most = 10 := hm
  subst hm
  have ok : RowsOk good rows := ok
  have hlen := ok.len
  refine st_ifF (et_is (et_not (et_B (ev_isiT (m := "list") ev_var ty_lst kitL))) rfl) (st_thru ?_)
  refine st_ifF (et_is (et_test (ev_gt (ev_lenL ev_var) ev_var)) (decide_eq_false (by omega))) (st_thru ?_)
  refine st_newL fun pk => ?_
  refine st_forE (tgP K tInt (tPair K tStr t) 6 7) (fun i (γ : Option V × Option V × Option V × List V) => γ.2.2.2.length = i) (fun γ => itsA (tPair K tStr t) γ.2.2.2 (rows.take γ.2.2.2.length)) (fun γ => [(pk, .lst γ.2.2.2)]) (fun γ => [some v1, some v2, some (.int 10), some (.ref ff), some (.ref fs), some (.ref pk), γ.1, γ.2.1, γ.2.2.1])
    (ea_cons ev_var ea_nil) (none, none, none, []) rfl (fun _ _ => .nil) ?_ ?_
  · rintro L i r ⟨w6, w7⟩ ⟨o6, o7, o8, vs⟩ hx ⟨ho6, ho7⟩ hl
    dsimp only at hl ⊢
    subst hl
    obtain ⟨r1, r2⟩ := r
    obtain ⟨hn, hg⟩ := ok.ok _ (List.mem_of_getElem? hx)
    dsimp only at hn hg
    have hi : vs.length < rows.length := (List.getElem?_eq_some_iff.mp hx).1
    have hnk : r1 ∉ keys (rows.take vs.length) := by
      unfold keys
      rw [List.map_take]
      exact not_mem_take ok.nd (by rw [List.getElem?_map, hx]; rfl)
    have hz : vs.length ≤ 1000 := by omega
    refine st_seeAt (p := pk) (o := .lst vs) (u := tLst K (tPair K tStr t)) (y := rows.take vs.length) (f := oV V.str) (x := none) rfl (fun _ => .inr trivial) (fun G m g l => ⟨pk, vs, rfl, .of upd_same, m.1.1.2.imp fun _ _ => (tPair K tStr t).mono l, sz _ hz⟩) (ev_call (ea_cons ev_var (ea_cons ev_var ea_nil)) ⟨hn, hnk⟩) ?_
    refine st_ifT (et_test (ev_isN (f := oV V.str) (x := none) (b := true) ev_varE rfl)) ?_
    refine st_asgA (f := oV V.str) (x := none) (ev_callL (a := ((), r2, ())) rfl (ea_cons ev_any (ea_cons (ev_snd (p := (r1, r2)) ev_var) ea_nil)) hg) ?_
    refine st_thru ?_
    refine st_ifF (et_test (ev_notN (f := oV V.str) (x := none) (b := false) ev_varE rfl)) (st_thru ?_)
    refine st_app (t := tPair K tStr t) (x := (r1, r2)) (j := 0) rfl (Nat.lt_of_le_of_lt hz (by decide)) (ev_pair (ev_fst (p := (r1, r2)) ev_var) (ev_callL (a := (r2, ())) rfl (ea_cons (ev_snd (p := (r1, r2)) ev_var) ea_nil) hg)) fun v hv => ?_
    refine st_turn rfl (some w6, some w7, some .non, vs ++ [v]) (by simp) (fun G m => ?_)
    have e1 : (vs ++ [v]).length = vs.length + 1 := by simp
    show Fa _ (vs ++ [v]) (rows.take (vs ++ [v]).length)
    rw [e1, List.take_add_one, hx]
    exact m.1.1.1.2.append (.cons m.2 .nil)
  · rintro L ⟨o6, o7, o8, vs⟩ hl
    dsimp only at hl ⊢
    have e1 : rows.take vs.length = rows := by rw [hl, List.take_of_length_le (Nat.le_refl _)]
    rw [e1]
    refine st_pub (x := rows) (t := tLst K (tPair K tStr t)) (pub_lK (by omega)) (st_retF ret (ev_tupleL ev_var) rfl)
abbrev s_Held_checked_places : Stmt := inClass (top 56) 1
abbrev N_Held_checked_places : List Str := ["self", "places"]
theorem sc_Held_checked_places : FnScope N_Held_checked_places ["self", "places"] (C8.fnScope s_Held_checked_places) := ⟨rfl, rfl, rfl, by decide +kernel, rfl, by decide +kernel, by decide +kernel⟩
theorem ok_checked_places (Dd : Mn K C "checked_places" "Held.checked_places" s_Held_checked_places ["self", "places"]) (c_checked0 : P_checked P w K mg base tInt (fun n : Int => 1 ≤ n ∧ n ≤ 4) "many_fault" "many_shaped") : P_checked_places P w K mg base C := by
  obtain ⟨aMF, aMS, m_mf, m_ms, c_checked⟩ := c_checked0
  refine met2 Dd sc_Held_checked_places fun f cdv A outer s H E hr => ⟨_, (pss_cons (ps_ret (C8.pe_c c_checked hr (by decide) (by rfl) (pa_cons pe_str (pa_cons (pv 1) (pa_cons pe_int (pa_cons (pe_glob (v := .ref aMF) (by rfl) m_mf rfl) (pa_cons (pe_glob (v := .ref aMS) (by rfl) m_ms rfl) pa_nil))))))) pss_nil), ?_⟩
  rintro B D v1 v2 u1 rows h1 h2 ok ret -
  exact st_retF ret (ev_call (ea_cons ev_str (ea_cons ev_var (ea_cons ev_int (ea_cons (ev_c (x := ()) fun _ => rfl) (ea_cons (ev_c (x := ()) fun _ => rfl) ea_nil))))) ⟨rfl, ok⟩)
abbrev s_Held_need_known_people : Stmt := inClass (top 56) 2
abbrev N_Held_need_known_people : List Str := ["self"]
theorem sc_Held_need_known_people : FnScope N_Held_need_known_people ["self"] (C8.fnScope s_Held_need_known_people) := ⟨rfl, rfl, rfl, by decide +kernel, rfl, by decide +kernel, by decide +kernel⟩
theorem ok_need_known_people (Dd : Mn K C "need_known_people" "Held.need_known_people" s_Held_need_known_people ["self"]) : P_need_known_people P w K mg base C := by
  refine met1 Dd sc_Held_need_known_people fun f cdv A outer s H E hr => ⟨_, (pss_cons ps_pass pss_nil), ?_⟩
  rintro B D v1 u1 h1 - ret hn
  exact fun G H m e w => hn _ _ (ret _ () G H e rfl rfl)
structure InL (K : PySem.W.Frag) (mg : Str → Option Value) (CL fL : Addr) (st : Stmt) : Prop where
  m : mg "Lists" = some (.ref CL)
  ex : ∃ mc fd, ClX.CRead K CL mc ∧ ClX.CVal K CL mc "__init__" (.ref fL) (.ref fL) ∧ PySem.W.keepIn K (.ref fL) = true ∧ C8.Fun K "__init__" "Lists.__init__" st fL fd ∧ Binds K fd ["self", "people", "places"] []
structure InH (K : PySem.W.Frag) (mg : Str → Option Value) (C fH : Addr) (st : Stmt) : Prop where
  m : mg "Held" = some (.ref C)
  ex : ∃ fd, Mk K C fH ∧ C8.Fun K "__init__" "Held.__init__" st fH fd ∧ Binds K fd ["self", "people", "places"] []
abbrev s_Lists__init : Stmt := inClass (top 55) 0
abbrev N_Lists__init : List Str := ["self", "people", "places"]
theorem sc_Lists__init : FnScope N_Lists__init ["self", "people", "places"] (C8.fnScope s_Lists__init) := ⟨rfl, rfl, rfl, by decide +kernel, rfl, by decide +kernel, by decide +kernel⟩
theorem ok_Lists_init {fL : Addr} {fd : FuncData} (T : Bi mg) (hC : HeldC K C mg) (Fn : C8.Fun K "__init__" "Lists.__init__" s_Lists__init fL fd) (c_checked0 : P_checked P w K mg base (tGrps K) GOk "groups_fault" "groups_shaped") (m_checked_places : P_checked_places P w K mg base C) (m_places : P_places P w K mg base C) (m_need_known_people : P_need_known_people P w K mg base C) (c_need_known : P_need_known P w K mg base) :
    FnOk P w K mg base C8.CX0 7 fL fd ["self", "people", "places"] (initSp K C) := by
  obtain ⟨aGF, aGS, m_gf, m_gs, c_checked⟩ := c_checked0
  refine init_sp Fn sc_Lists__init (fun G vs i ⟨v1, _, e1, _, v2, _, e3, _, e2⟩ => by subst e1 e3; have : _ = _ := e2; subst this; rfl) fun cdv A outer s H E hr => ⟨_, (pss_cons (ps_fld (pv 0) (C8.pe_c c_checked hr (by decide) (by rfl) (pa_cons pe_str (pa_cons (pv 1) (pa_cons pe_int (pa_cons (pe_glob (v := .ref aGF) (by rfl) m_gf rfl) (pa_cons (pe_glob (v := .ref aGS) (by rfl) m_gs rfl) pa_nil)))))) rfl) (
    pss_cons (ps_fld (pv 0) (C8.pe_mt m_checked_places hr (by decide) (pv 0) (pa_cons (pv 2) pa_nil)) rfl) (
    pss_cons (ps_expr (C8.pe_c c_need_known hr (by decide) (by rfl) (pa_cons pe_str (pa_cons (k_fld K rfl (pv 0)) (pa_cons (C8.pe_mt0 m_places hr (by decide) (pv 0)) pa_nil))))) (
    pss_cons (ps_expr (C8.pe_mt0 m_need_known_people hr (by decide) (pv 0))) pss_nil)))), ?_⟩
  rintro G a dx vs ⟨rows, spots, u0⟩ D l g hh ⟨v1, _, e1, r1, v2, _, e3, r2, e2⟩ pre fin
  have e4 : _ = _ := e2
  subst e4 e3 e1
  have pre : PreW ⟨rows, spots⟩ := pre
  refine st_ins (dx := dx) (M := (Asr.tt.is (tLst K (tPair K tStr (tGrps K))) v1 rows).is (tLst K (tPair K tStr tInt)) v2 spots) ?_ ⟨⟨trivial, r1⟩, r2⟩ l g hh
  refine st_fldO (a := a) (C := C) (dx := dx) (fs := []) (j := 0) rfl hC.cl hC.nF (by decide) (ev_call (ea_cons ev_str (ea_cons ev_var (ea_cons ev_int (ea_cons (ev_c (x := ()) fun _ => rfl) (ea_cons (ev_c (x := ()) fun _ => rfl) ea_nil))))) ⟨rfl, pre.rows⟩) fun vf hvf => ?_
  refine st_fldO (a := a) (C := C) (dx := dx) (fs := putF "folk" vf []) (j := 0) rfl hC.cl hC.nS (by show (1 : Nat) < 1000; decide) (ev_methO (y := (spots, ())) (j := 0) rfl (by rw [lookup_putF, if_neg (by decide +kernel)]; rfl) (ea_cons ev_var ea_nil) pre.spots) fun vs hvs => ?_
  refine st_pub (t := tHeld K C) (x := ⟨rows, spots⟩) (fun G m g l => ⟨a, dx, vf, vs, rfl, upd_same, (tFolk K).mono l m.1.2, (tSpots K).mono l m.2⟩) ?_
  refine st_drop (ev_call (ea_cons ev_str (ea_cons (ev_folk ev_var hC.cl hC.nF) (ea_cons (ev_meth ev_var ea_nil trivial) ea_nil))) (fun r hr => ⟨((pre.rows.ok r hr).2).len, pre.known r hr⟩)) ?_
  refine st_drop (ev_methV (W := ⟨rows, spots⟩) (y := ()) ev_var ea_nil trivial) ?_
  exact fun G2 H2 m e w => fin _ G2 H2 e m.2
abbrev s_Held__init : Stmt := inClass (top 56) 0
abbrev N_Held__init : List Str := ["self", "people", "places"]
theorem sc_Held__init : FnScope N_Held__init ["self", "people", "places"] (C8.fnScope s_Held__init) := ⟨rfl, rfl, rfl, by decide +kernel, rfl, by decide +kernel, by decide +kernel⟩
theorem ok_Held {CL fL fH : Addr} (T : Bi mg) (iL : InL K mg CL fL s_Lists__init) (iH : InH K mg C fH s_Held__init) (k : ∀ fd, C8.Fun K "__init__" "Lists.__init__" s_Lists__init fL fd → FnOk P w K mg base C8.CX0 7 fL fd ["self", "people", "places"] (initSp K C)) : P_Held P w K mg base C := by
  obtain ⟨mc, fdL, rCL, cCL, kpCL, FnL, b_init⟩ := iL.ex
  obtain ⟨fdH, mk, FnH, bH⟩ := iH.ex
  have m_CL := iL.m
  have F_init := k fdL FnL
  refine ⟨fH, fdH, _, [], mk, init_sp FnH sc_Held__init (fun G vs i ⟨v1, _, e1, _, v2, _, e3, _, e2⟩ => by subst e1 e3; have : _ = _ := e2; subst this; rfl) fun cdv A outer s H E hr => ?_, iH.m, bH, .nil⟩
  have r_init := hr
  refine ⟨_, (pss_cons (ps_expr (pe_cinit (pe_glob (v := .ref CL) (by rfl) m_CL rfl) rCL cCL kpCL F_init r_init b_init .nil (C8.pass0 (E := C8.E0)) (pa_cons (pv 0) (pa_cons (pv 1) (pa_cons (pv 2) pa_nil))))) pss_nil), ?_⟩
  rintro G a dx vs ⟨rows, spots, u0⟩ D l g hh ⟨v1, _, e1, r1, v2, _, e3, r2, e2⟩ pre fin
  have e4 : _ = _ := e2
  subst e4 e3 e1
  refine ⟨rfl, _, rfl, _, rfl, _, rfl, ?_⟩
  exact ⟨G, a, dx, [v1, v2], (rows, spots, ()), rfl, l, g, hh, ⟨v1, _, rfl, r1, v2, _, rfl, r2, rfl⟩, pre, fun G' H' ex r => fin _ G' H' ex r⟩
end
end G3
set_option maxRecDepth 100000
set_option maxHeartbeats 4000000
/-! G18: the box: a list of three ints that is changed by calls. -/
namespace G3
open PySem PySem.Spec PyProof.Rows L2
def bx (x0 x1 x2 : Int) : HO := .lst [.int x0, .int x1, .int x2]
def Bx (B : Bs) (b : Addr) : Bs where
  R := fun G H => B.own b ∧ B.R G H ∧ G b = none ∧ ∃ x0 x1 x2, H b = some (bx x0 x1 x2)
  own := fun p => B.own p ∧ p ≠ b
  le := fun e => B.le e.2.1
  ext := fun {G H G' H'} e y => by
    obtain ⟨o, e, g, x0, x1, x2, h⟩ := e
    obtain ⟨g2, h2⟩ := y.own g h
    exact ⟨o, B.ext e y, g2, x0, x1, x2, h2⟩
  set := fun {G H p o} hp e g => by
    obtain ⟨ob, e, gb, x0, x1, x2, h⟩ := e
    exact ⟨ob, B.set hp.1 e g, gb, x0, x1, x2, by rw [upd_ne hp.2.symm]; exact h⟩
  new := fun {G H p} e hp => by
    obtain ⟨ob, e, gb, x0, x1, x2, h⟩ := e
    exact ⟨B.new e hp, (ne_of_none h hp).symm⟩
  pub := fun {G H p o} hp e hh g => by
    obtain ⟨ob, e, gb, x0, x1, x2, h⟩ := e
    exact ⟨ob, B.pub hp.1 e hh g, by rw [upd_ne hp.2.symm]; exact gb, x0, x1, x2, h⟩
section
variable {B : Bs} {b : Addr} {M : Asr} {O : List (Addr × HO)} {G H G' H' : Hp} {y0 y1 y2 : Int}
theorem bx_R (e : (Bx B b).R G H) (x : ExI b G H G' H') (g : G' b = none) (h : H' b = some (bx y0 y1 y2)) : (Bx B b).R G' H' := by
  obtain ⟨ob, e, gb, x0, x1, x2, hb⟩ := e
  have y : Ext G H G' (upd H' b (bx x0 x1 x2)) := by
    refine ⟨fun a ha => ?_, fun a o ho => ?_, fun a u ha => ?_⟩
    · by_cases z : a = b
      · rw [z, g, gb]
      · exact x.gg a z ha
    · by_cases z : a = b
      · rw [z, upd_same]
        rw [z, hb] at ho
        exact ho
      · rw [upd_ne z]
        exact x.hh a o z ho
    · by_cases z : a = b
      · rw [z, g] at ha
        cases ha
      · rw [upd_ne z]
        exact x.gh a u ha
  have e2 := B.set (o := bx y0 y1 y2) ob (B.ext e y) g
  have e3 : upd (upd H' b (bx x0 x1 x2)) b (bx y0 y1 y2) = H' := by
    rw [upd_upd]
    funext c
    unfold upd
    split
    · rename_i q
      rw [q, h]
    · rfl
  rw [e3] at e2
  exact ⟨ob, e2, g, y0, y1, y2, h⟩
theorem bx_own (w : Own (Bx B b) O G H) (x : ExI b G H G' H') : Own (Bx B b) O G' H' := ⟨w.1, fun po hm => by
  obtain ⟨o1, o2, o3⟩ := w.2 po hm
  exact ⟨o1, by rw [x.gg po.1 o1.2 (by rw [o3]; rfl)]; exact o2, x.hh po.1 po.2 o1.2 o3⟩⟩
theorem st_box {ts : TS} {D : Ends} {σ : L2.St} (h : St (Bx B b) M O ts D σ) : St B M ((b, bx y0 y1 y2) :: O) ts D σ := fun G H m e w => by
  obtain ⟨o1, o2, o3⟩ := w.2 _ List.mem_cons_self
  obtain ⟨n1, n2⟩ := List.nodup_cons.mp w.1
  exact h G H m ⟨o1, e, o2, _, _, _, o3⟩ ⟨n2, fun po hm => ⟨⟨(w.2 po (List.mem_cons_of_mem _ hm)).1, fun z => n1 (List.mem_map.mpr ⟨po, hm, z⟩)⟩, (w.2 po (List.mem_cons_of_mem _ hm)).2⟩⟩
theorem st_unbox {ts : TS} {D : Ends} {σ : L2.St} (h : St B M O ts D σ) : St (Bx B b) M O ts D σ := fun G H m e w => h G H m e.2.1 ⟨w.1, fun po hm => ⟨(w.2 po hm).1.1, (w.2 po hm).2⟩⟩
theorem ret_box {β : Type} {u : Ty β} {R : β → Prop} {D : Ends} (k : RetOk B u R D) : RetOk (Bx B b) u R D := fun v y G' H' e hR r => k v y G' H' e.2.1 hR r
end
/-! ### what evaluates to what, in a base -/
section
variable (B : Bs) (M : Asr) (O : List (Addr × HO)) (σ : L2.St)
def EvB {α : Type} (t : Ty α) (te : TE) (R : α → Prop) : Prop := ∀ G H, M.p G → B.R G H → Own B O G H → ∀ Q : VK, (∀ v x G' H', Le G G' → B.R G' H' → Own B O G' H' → R x → t.r G' v x → Q v H') → te σ H Q
def EvTB (tt : TT) (R : Bool → Prop) : Prop := ∀ G H, M.p G → B.R G H → Own B O G H → ∀ Q : Bool → Hp → Prop, (∀ b G' H', Le G G' → B.R G' H' → Own B O G' H' → R b → Q b H') → tt σ H Q
def EvAB {ι : Type} (A : TyA ι) (ta : TA) (S : ι → Prop) : Prop := ∀ G H, M.p G → B.R G H → Own B O G H → ∀ Q : List V → Hp → Prop, (∀ vs i G' H', Le G G' → B.R G' H' → Own B O G' H' → S i → A.r G' vs i → Q vs H') → ta σ H Q
end
section
variable {B : Bs} {M : Asr} {O : List (Addr × HO)} {σ : L2.St} {K : PySem.W.Frag} {α β γ ι : Type} {t : Ty α} {u : Ty β} {w : Ty γ} {te ta tb : TE} {tt uu : TT} {A : TyA ι} {E : XK} {x : α} {R : α → Prop} {b : Addr} {i : Nat}
theorem eb_R (h : EvR M O σ t te R) : EvB B M O σ t te R := fun G H m e ow Q q => h G H m (ow.wl e) Q fun v x G' H' e1 hR r => q v x G' H' (e1.le (B.le e)) (B.ext e e1) (ow.ext e1) hR r
theorem eb_E (h : Ev M O σ t te x) : EvB B M O σ t te (fun y => y = x) := eb_R h.rel
theorem eb_imp {R' : α → Prop} (h : EvB B M O σ t te R) (k : ∀ x, R x → R' x) : EvB B M O σ t te R' := fun G H m e ow Q q => h G H m e ow Q fun v x G' H' l e1 o1 hR r => q v x G' H' l e1 o1 (k x hR) r
theorem tb_test {R : Bool → Prop} (h : EvB B M O σ tBool te R) : EvTB B M O σ (tTest te) R := fun G H m e ow Q q => h G H m e ow _ fun v x G' H' l e1 o1 hR r => ⟨x, r, q x G' H' l e1 o1 hR⟩
theorem tb_B {R : Bool → Prop} (h : EvB B M O σ tBool te R) : EvTB B M O σ (tB te) R := fun G H m e ow Q q => h G H m e ow _ fun v x G' H' l e1 o1 hR r => ⟨x, r, q x G' H' l e1 o1 hR⟩
theorem tb_T {c : Bool} (h : EvT M O σ tt c) : EvTB B M O σ tt (fun y => y = c) := fun G H m e ow Q q => h G H m (ow.wl e) Q fun G' H' e1 => q c G' H' (e1.le (B.le e)) (B.ext e e1) (ow.ext e1) rfl
theorem tb_and {R1 R2 : Bool → Prop} (h1 : EvTB B M O σ tt R1) (h2 : EvTB B M O σ uu R2) : EvTB B M O σ (tAnd tt uu) (fun c => c = true → R1 true ∧ R2 true) := fun G H m e ow Q q => h1 G H m e ow _ fun c G1 H1 l e1 o1 hR => by
  cases c with
  | true =>
    show uu σ H1 Q
    exact h2 G1 H1 (M.mono l m) e1 o1 Q fun c2 G2 H2 l2 e2 o2 hR2 => q c2 G2 H2 (l.trans l2) e2 o2 fun z => ⟨hR, z ▸ hR2⟩
  | false =>
    show Q false H1
    exact q false G1 H1 l e1 o1 fun z => (nomatch z)
theorem tb_not {R : Bool → Prop} (h : EvTB B M O σ tt R) : EvTB B M O σ (tNot tt) (fun c => R (!c)) := fun G H m e ow Q q => h G H m e ow _ fun c G1 H1 l e1 o1 hR => q (!c) G1 H1 l e1 o1 (by show R (!!c); rw [Bool.not_not]; exact hR)
theorem ab_nil : EvAB B M O σ aNil tNil (fun _ => True) := fun G H m e ow Q q => q [] () G H (Le.refl G) e ow trivial rfl
theorem ab_cons {tr : TA} {S : ι → Prop} (h : EvB B M O σ t ta R) (hr : EvAB B M O σ A tr S) : EvAB B M O σ (aCons t A) (tCons ta tr) (fun i => R i.1 ∧ S i.2) := fun G H m e ow Q q =>
  h G H m e ow _ fun v x G1 H1 l e1 o1 hx r1 => hr G1 H1 (M.mono l m) e1 o1 _ fun vs i G2 H2 l2 e2 o2 hs r2 => q _ (x, i) G2 H2 (l.trans l2) e2 o2 ⟨hx, hs⟩ ⟨v, vs, rfl, t.mono l2 r1, r2⟩
theorem eb_call {tr : TA} {S pre : ι → Prop} {P : ι → β → Prop} (h : EvAB B M O σ A tr S) (hp : ∀ i, S i → pre i) : EvB B M O σ u (tCall (SpR A pre u P) [] E tr) (fun y => ∃ i, S i ∧ P i y) := fun G H m e ow Q q => h G H m e ow _ fun vs i G1 H1 l e1 o1 hs r1 => by
  show SpR A pre u P (vs ++ []) H1 Q E
  rw [List.append_nil]
  exact ⟨G1, i, B.le e1, r1, hp i hs, fun v y G2 H2 e2 hR r2 => q v y G2 H2 (l.trans (e2.le (B.le e1))) (B.ext e1 e2) (o1.ext e2) ⟨i, hs, hR⟩ r2⟩
/-- an operation of two -/
theorem eb_op2 {r : R2} {Ra : α → Prop} {Rb : β → Prop} {Rc : γ → Prop} (ha : EvB B M O σ t ta Ra) (hb : EvB B M O σ u tb Rb) (hr : ∀ G H v v' x y Q, Le G H → t.r G v x → u.r G v' y → Ra x → Rb y → (∀ v c G' H', Ext G H G' H' → Rc c → w.r G' v c → Q v H') → r v v' H Q) : EvB B M O σ w (tOp r ta tb) Rc := fun G H m e ow Q q =>
  ha G H m e ow _ fun v x G1 H1 l e1 o1 hx r1 => hb G1 H1 (M.mono l m) e1 o1 _ fun v' y G2 H2 l2 e2 o2 hy r2 => hr G2 H2 v v' x y Q (B.le e2) (t.mono l2 r1) r2 hx hy fun z c G3 H3 e3 hc r3 => q z c G3 H3 ((l.trans l2).trans (e3.le (B.le e2))) (B.ext e2 e3) (o2.ext e3) hc r3
theorem eb_cb2 {r : List V → Hp → VK → Prop} {Ra : α → Prop} {Rb : β → Prop} {Rc : γ → Prop} (ha : EvB B M O σ t ta Ra) (hb : EvB B M O σ u tb Rb) (hr : ∀ G H v v' x y Q, Le G H → t.r G v x → u.r G v' y → Ra x → Rb y → (∀ v c G' H', Ext G H G' H' → Rc c → w.r G' v c → Q v H') → r [v, v'] H Q) : EvB B M O σ w (tCB r (tCons ta (tCons tb tNil))) Rc := fun G H m e ow Q q =>
  ha G H m e ow _ fun v x G1 H1 l e1 o1 hx r1 => hb G1 H1 (M.mono l m) e1 o1 _ fun v' y G2 H2 l2 e2 o2 hy r2 => hr G2 H2 v v' x y Q (B.le e2) (t.mono l2 r1) r2 hx hy fun z c G3 H3 e3 hc r3 => q z c G3 H3 ((l.trans l2).trans (e3.le (B.le e2))) (B.ext e2 e3) (o2.ext e3) hc r3
/-! ### the promise of those that change the box -/
def SpX (A : TyA ι) (pre : ι → Prop) (u : Ty β) (P : ι → β → Prop) : Sp := fun vs H Q _ => ∃ G b x0 x1 x2 vs' i, vs = .ref b :: vs' ∧ Le G H ∧ G b = none ∧ H b = some (bx x0 x1 x2) ∧ A.r G vs' i ∧ pre i ∧
  ∀ v y G' H' y0 y1 y2, ExI b G H G' H' → G' b = none → H' b = some (bx y0 y1 y2) → P i y → u.r G' v y → Q v H'
theorem eb_callX {tr : TA} {S pre : ι → Prop} {P : ι → β → Prop} (h : EvAB (Bx B b) M O σ A tr S) (hp : ∀ i, S i → pre i) (hs : σ[i]? = some (some (.ref b)) := by rfl) : EvB (Bx B b) M O σ u (tCall (SpX A pre u P) [] E (tCons (tVar i) tr)) (fun y => ∃ i, S i ∧ P i y) := fun G H m e ow Q q =>
  ⟨_, hs, h G H m e ow _ fun vs a G1 H1 l e1 o1 hS r1 => by
    show SpX A pre u P ((.ref b :: vs) ++ []) H1 Q E
    rw [List.append_nil]
    obtain ⟨-, -, gb, x0, x1, x2, hb⟩ := id e1
    refine ⟨G1, b, x0, x1, x2, vs, a, rfl, (Bx B b).le e1, gb, hb, r1, hp a hS, fun v y G2 H2 y0 y1 y2 x g h2 hP r2 => ?_⟩
    have lg : Le G1 G2 := fun c o hc => .inl (by
      have ne : c ≠ b := fun z => by
        rw [z, gb] at hc
        cases hc
      rw [x.gg c ne (((Bx B b).le e1).isSome hc)]
      exact hc)
    exact q v y G2 H2 (l.trans lg) (bx_R e1 x g h2) (bx_own o1 x) ⟨a, hS, hP⟩ r2⟩
end
section
variable {B : Bs} {M : Asr} {O : List (Addr × HO)} {σ : L2.St} {K : PySem.W.Frag} {α β γ ι : Type} {t : Ty α} {u : Ty β} {te : TE} {tt : TT} {tz tu tw : TS} {D : Ends} {R : α → Prop} {i j : Nat} {p : Addr}
theorem sb_asg (h : EvB B M O σ t te R) (k : ∀ v x, R x → t.ok v x → St B (M.is t v x) O tz D (σ.set i (some v))) : St B M O (tSeq (tAsg te (gName i)) tz) D σ := fun G H m e w =>
  h G H m e w _ fun v x G1 H1 l e1 o1 hR r => k v x hR (t.of r) G1 H1 ⟨M.mono l m, r⟩ e1 o1
theorem sb_ret {P : α → Prop} (k : RetOk B t P D) (h : EvB B M O σ t te R) (hP : ∀ x, R x → P x) : St B M O (tSeq (tRet te) tz) D σ := fun G H m e w => h G H m e w _ fun v x G1 H1 l e1 o1 hR r => k v x G1 H1 e1 (hP x hR) r
theorem sb_if {R : Bool → Prop} (h : EvTB B M O σ tt R) (h1 : R true → St B M O tu { D with nx := tz D } σ) (h2 : R false → St B M O tw { D with nx := tz D } σ) : St B M O (tSeq (tIfS tt tu tw) tz) D σ := fun G H m e w =>
  h G H m e w _ fun c G1 H1 l e1 o1 hR => by
    cases c with
    | true => exact h1 hR G1 H1 (M.mono l m) e1 o1
    | false => exact h2 hR G1 H1 (M.mono l m) e1 o1
/-- an if whose ends meet -/
theorem sb_ifK {R : Bool → Prop} (J : γ → Prop) (O' : γ → List (Addr × HO)) (S' : γ → L2.St) (h : EvTB B M O σ tt R) (rest : ∀ c, J c → St B M (O' c) tz D (S' c))
    (h1 : (∀ c, J c → St B M (O' c) tz D (S' c)) → R true → St B M O tu { D with nx := tz D } σ) (h2 : (∀ c, J c → St B M (O' c) tz D (S' c)) → R false → St B M O tw { D with nx := tz D } σ) : St B M O (tSeq (tIfS tt tu tw) tz) D σ := sb_if h (h1 rest) (h2 rest)
/-- l.append(e) -/
theorem sb_app {vs : List V} (hO : O[j]? = some (p, .lst vs)) (hl : vs.length < sizeLine) (hv : EvB B M O σ t te R) (c : ∀ v x, R x → t.ok v x → St B (M.is t v x) (O.set j (p, .lst (vs ++ [v]))) tz D σ) (hs : σ[i]? = some (some (.ref p)) := by rfl) : St B M O (tSeq (tDrop (tBM K "list" rAppend (tVar i) (tCons te tNil))) tz) D σ := fun G H m e w =>
  ⟨_, hs, .inl ⟨rfl, vs, .of (w.at_ hO).2.2⟩, hv G H m e w _ fun v x G1 H1 l e1 o1 hR r1 => by
    obtain ⟨q1, q2, q3⟩ := o1.at_ hO
    exact ⟨p, vs, v, rfl, rfl, q3, hl, c v x hR (t.of r1) G1 _ ⟨M.mono l m, r1⟩ (B.set q1 e1 q2) (o1.set hO)⟩⟩
end
end G3
set_option maxRecDepth 100000
set_option maxHeartbeats 4000000
/-! G19: comprehensions and loops with calls that change the box; more stores. -/
namespace G3
open PySem PySem.Spec PyProof.Rows L2
section
variable {B : Bs} {M N : Asr} {O : List (Addr × HO)} {σ : L2.St} {K : PySem.W.Frag} {α β γ Ω : Type} {t : Ty α} {u : Ty β} {te tl : TE} {g : TG} {vs : List Nat} {D : Addr}
theorem lcB_core {J : It} {Gd : Hp → Prop} {Y : Nat → Hp → V → Hp → Prop} {xs : List α} {G1 H1 : Hp} {Qd : Hp → Prop} (w : Walk J xs.length Gd Y) (gd : ∀ {G H}, N.p G → B.R G H → Gd H)
    (yd : ∀ {i H v H2 G}, i < xs.length → N.p G → B.R G H → Y i H v H2 → ∃ G2 x, Ext G H G2 H2 ∧ xs[i]? = some x ∧ t.r G2 v x) (tg : Tgt g t Ω) (P : α → β → Prop)
    (hw : ∀ ω, wipe (tg.put ω (wipe σ vs)) vs = wipe σ vs)
    (he : ∀ (po : Addr × HO) (i : Nat) x ω, xs[i]? = some x → tg.ok ω x → EvB B (tg.F N ω x) (po :: O) (tg.put ω (wipe σ vs)) u te (P x)) (hz : xs.length ≤ sizeLine)
    (m0 : N.p G1) (e0 : B.R G1 H1) (o0 : Own B O G1 H1) (d0 : H1 D = none)
    (hd : ∀ G H acc ys, Le G1 G → B.R G H → Own B ((D, .lst acc) :: O) G H → Fa (u.r G) acc ys → Fa P xs ys → acc.length ≤ sizeLine → Qd H) :
    ∃ W : Nat → Nat → Hp → Prop, (∃ m, W 0 m (upd H1 D (.lst []))) ∧ ∀ i m H, W i m H →
      (J.stop i H ∧ Qd H) ∨ (J.go i H ∧ ∃ Nx : Hp → Prop, (∀ H', Nx H' → ∃ m', m' < m ∧ W (i + 1) m' H') ∧ ∀ x H', J.yld i H x H' → g x (wipe σ vs) H' fun σ2 H2 => wipe σ2 vs = wipe σ vs ∧ tYes σ2 H2 fun b H3 =>
        if b = true then te σ2 H3 fun y H4 => ∃ acc, H4 D = some (.lst acc) ∧ acc.length < sizeLine ∧ Nx (upd H4 D (.lst (acc ++ [y]))) else Nx H3) := by
  refine lc_it w (fun i H => ∃ G acc ys, N.p G ∧ Le G1 G ∧ B.R G H ∧ Own B ((D, .lst acc) :: O) G H ∧ Fa (u.r G) acc ys ∧ Fa P (xs.take i) ys ∧ acc.length ≤ i)
    ⟨G1, [], [], m0, Le.refl G1, B.ext e0 (.newO (B.le e0) d0), o0.push e0 d0, .nil, by rw [List.take_zero]; exact .nil, Nat.le_refl _⟩ (fun i H _ ⟨G, _, _, m, _, e, _⟩ => gd m e) ?_ ?_
  · rintro i v H H' hi ⟨G, acc, ys, m, lg, e, ow, fa, fp, hl⟩ y
    obtain ⟨G2, x, e2, hx, r⟩ := yd hi m e y
    have m2 := N.mono (e2.le (B.le e)) m
    have eB2 := B.ext e e2
    have ow2 := ow.ext e2
    have et : xs.take (i + 1) = xs.take i ++ [x] := by
      rw [List.take_add_one, hx]
      rfl
    refine tg.run m2 e2.gh r fun ω k F => ⟨hw ω, ?_⟩
    simp only [tYes, if_true]
    refine he (D, .lst acc) i x ω hx k G2 H' F eB2 ow2 _ fun z zy G4 H4 l4 e4 o4 hP r4 => ?_
    obtain ⟨q1, q2, q3⟩ := o4.2 _ List.mem_cons_self
    dsimp only at q1 q2 q3
    have lg2 := (e2.le (B.le e)).trans l4
    refine ⟨acc, q3, Nat.lt_of_le_of_lt hl (Nat.lt_of_lt_of_le hi hz), G4, acc ++ [z], ys ++ [zy], tg.sub ((tg.F N ω x).mono l4 F), lg.trans lg2, B.set q1 e4 q2, ?_, ?_, ?_, by rw [List.length_append]; exact Nat.succ_le_succ hl⟩
    · exact o4.set (i := 0) (o' := .lst (acc ++ [z])) rfl
    · exact (fa.imp fun _ _ => u.mono lg2).append (.cons r4 .nil)
    · rw [et]
      exact fp.append (.cons hP .nil)
  · rintro H ⟨G, acc, ys, m, lg, e, ow, fa, fp, hl⟩
    rw [List.take_of_length_le (Nat.le_refl _)] at fp
    exact hd G H acc ys lg e ow fa fp (Nat.le_trans hl hz)
theorem lcB_fin {G H : Hp} {acc : List V} {ys : List β} (e : B.R G H) (ow : Own B ((D, .lst acc) :: O) G H) (fa : Fa (u.r G) acc ys) (hl : acc.length ≤ sizeLine) :
    Le G (upd G D (.lst acc)) ∧ B.R (upd G D (.lst acc)) H ∧ Own B O (upd G D (.lst acc)) H ∧ (tLst K u).r (upd G D (.lst acc)) (.ref D) ys := by
  obtain ⟨q1, q2, q3⟩ := ow.2 _ List.mem_cons_self
  dsimp only at q1 q2 q3
  have lg : Le G (upd G D (.lst acc)) := (Le.refl G).owned q2
  refine ⟨lg, B.pub q1 e q3 q2, ⟨(List.nodup_cons.mp ow.1).2, fun po hm => ?_⟩, D, acc, rfl, .of upd_same, fa.imp fun _ _ => u.mono lg, hl⟩
  obtain ⟨a2, b2, c2⟩ := ow.2 po (List.mem_cons_of_mem _ hm)
  have ne : po.1 ≠ D := fun z => (List.nodup_cons.mp ow.1).1 (List.mem_map.mpr ⟨po, hm, z⟩)
  exact ⟨a2, by rw [upd_ne ne]; exact b2, c2⟩
theorem eb_lcL {xs : List α} (tg : Tgt g t Ω) (P : α → β → Prop) (h : Ev M O σ (tLst K t) tl xs)
    (he : ∀ (L : Asr) (po : Addr × HO) x ω, x ∈ xs → tg.ok ω x → EvB B (tg.F (M.and L) ω x) (po :: O) (tg.put ω (wipe σ vs)) u te (P x)) (hw : ∀ ω, wipe (tg.put ω (wipe σ vs)) vs = wipe σ vs := by intro _; rfl) :
    EvB B M O σ (tLst K u) (tLc (iList K tl) g tYes te vs) (fun ys => Fa P xs ys) := fun G H m e ow Q q =>
  h G H m (ow.wl e) _ fun v G1 H1 e1 ⟨a, ws, ev, hq, fa, z⟩ => by
    subst ev
    have eB := B.ext e e1
    have ow1 := ow.ext e1
    refine ⟨a, rfl, ⟨ws, (B.le eB).sqL hq⟩, fun D hD => ?_⟩
    have hn := fa.length
    refine lcB_core (B := B) (N := M.and ⟨fun G => SqL K G a ws ∧ Fa (t.r G) ws xs, fun l x => ⟨l.sqL x.1, x.2.imp fun _ _ => t.mono l⟩⟩) (xs := xs) (t := t) (u := u) (O := O) (hn ▸ walk_list (K := K) (a := a) (xs := ws)) (fun m e => (B.le e).sqL m.2.1) (fun {i H v H2 G} hi m e y => ?_) tg P hw
      (fun po i x ω hx => he _ po x ω (List.mem_of_getElem? hx)) (hn ▸ z) ⟨M.mono (e1.le (B.le e)) m, hq, fa⟩ eB ow1 hD fun G2 H2 acc ys l2 e2 o2 f2 p2 z2 => ?_
    · obtain ⟨rfl, y2⟩ := y
      obtain ⟨x, hx, r⟩ := m.2.2.get y2
      exact ⟨G, x, .refl (B.le e), hx, r⟩
    · obtain ⟨k1, k2, k3, k4⟩ := lcB_fin (K := K) e2 o2 f2 z2
      exact q _ ys _ H2 (((e1.le (B.le e)).trans l2).trans k1) k2 k3 p2 k4
/-- [e for k in range(n)] -/
theorem eb_lcR {j : Nat} {ta : TA} {Rn : Int → Prop} (P : Nat → β → Prop) (h : EvAB B M O σ (aCons tInt aNil) ta (fun i => Rn i.1)) (hz : ∀ n, Rn n → 0 ≤ n ∧ n ≤ 1000)
    (he : ∀ (po : Addr × HO) (i : Nat) (n : Int), Rn n → (i : Int) < n → EvB B M (po :: O) ((wipe σ vs).set j (some (.int (i : Int)))) u te (P i)) (hw : ∀ v, wipe ((wipe σ vs).set j (some v)) vs = wipe σ vs := by intro _; rfl) :
    EvB B M O σ (tLst K u) (tLc (iRng1 ta) (gName j) tYes te vs) (fun ys => ∃ n, Rn n ∧ Fa P (List.range n.toNat) ys) := fun G H m e ow Q q =>
  h G H m e ow _ fun vs0 a G1 H1 l1 e1 o1 hR r => by
    obtain ⟨n, _⟩ := a
    obtain ⟨v, vs', ev, hv, hn⟩ := r
    have hv2 : v = V.int n := hv
    have hn2 : vs' = [] := hn
    subst hv2 hn2
    have hb := hz n hR
    refine ⟨n, ev, by omega, by omega, fun D hD => ?_⟩
    refine lcB_core (B := B) (N := M) (xs := (List.range n.toNat)) (t := ⟨fun _ v (x : Nat) => v = .int (x : Int), fun v x => v = .int (x : Int), id, fun _ h => h⟩) (u := u) (O := O) (by rw [List.length_range]; exact walk_range (lo := 0) (n := n.toNat)) (fun _ _ => trivial) (fun {i H v H2 G} hi m e y => ?_) (tgN _ j) P hw
      (fun po i x ω hx ho => ?_) (by rw [List.length_range]; exact sz _ (by omega)) (M.mono l1 m) e1 o1 hD fun G2 H2 acc ys l2 e2 o2 f2 p2 z2 => ?_
    · obtain ⟨rfl, rfl⟩ := y
      rw [List.length_range] at hi
      exact ⟨G, i, .refl (B.le e), List.getElem?_range hi, congrArg V.int (Int.zero_add _)⟩
    · have ho : ω = V.int (x : Int) := ho
      subst ho
      have hx2 : x < n.toNat := by
        have := List.mem_of_getElem? hx
        rwa [List.mem_range] at this
      exact fun G H m => he po x n hR (by omega) G H m.1
    · obtain ⟨k1, k2, k3, k4⟩ := lcB_fin (K := K) e2 o2 f2 z2
      exact q _ ys _ H2 ((l1.trans l2).trans k1) k2 k3 ⟨n, hR, p2⟩ k4
end
section
variable {B : Bs} {M : Asr} {O : List (Addr × HO)} {σ : L2.St} {K : PySem.W.Frag} {α β γ : Type} {t : Ty α} {u : Ty β} {te ti : TE} {tb tz : TS} {D : Ends} {i j k : Nat} {p : Addr}
/-- for k in range(n), where n is only known by what holds of it -/
theorem sb_forR {ta : TA} {Rn : Int → Prop} (Jv : Int → Nat → γ → Prop) (Xg : γ → Asr) (Og : γ → List (Addr × HO)) (sg : γ → L2.St) (h : EvAB B M O σ (aCons tInt aNil) ta (fun i => Rn i.1)) (hz : ∀ n, Rn n → -1000 ≤ n ∧ n ≤ 1000) (g0 : γ) (j0 : ∀ n, Rn n → Jv n 0 g0) (x0 : ∀ G, M.p G → (Xg g0).p G)
    (hs : ∀ (n : Int) (i : Nat) c, Rn n → (i : Int) < n → Jv n i c → St B (M.and (Xg c)) (Og c) tb { D with nx := Lp B M (Jv n (i + 1)) Xg Og sg, ct := Lp B M (Jv n (i + 1)) Xg Og sg, bk := tz D } ((sg c).set j (some (.int (i : Int)))))
    (hd : ∀ n c, Rn n → Jv n n.toNat c → St B (M.and (Xg c)) (Og c) tz D (sg c)) (s0 : σ = sg g0 := by rfl) (o0 : O = Og g0 := by rfl) : St B M O (tSeq (tFor (iRng1 ta) (gName j) tb) tz) D σ := fun G H m e w =>
  h G H m e w _ fun vs a G1 H1 l1 e1 o1 hR r => by
    obtain ⟨n, _⟩ := a
    obtain ⟨v, vs', ev, hv, hn⟩ := r
    have hv2 : v = V.int n := hv
    have hn2 : vs' = [] := hn
    subst hv2 hn2
    have hb := hz n hR
    subst s0 o0
    refine ⟨n, ev, by omega, by omega, ?_⟩
    refine for_it (g := gName j) (tb := tb) (D := { D with nx := tz D }) (walk_range (lo := 0) (n := n.toNat)) (fun i => Lp B M (Jv n i) Xg Og sg) ⟨g0, j0 n hR, rfl, G1, ⟨M.mono l1 m, x0 G1 (M.mono l1 m)⟩, e1, o1⟩ (fun _ _ _ _ _ => trivial) ?_ ?_
    · rintro i v σ H H' hi ⟨c, jc, rfl, G, m, e, o⟩ ⟨rfl, rfl⟩
      have z : (0 : Int) + (i : Int) = (i : Int) := Int.zero_add _
      have q := hs n i c hR (by omega) jc G _ m e o
      rw [← z] at q
      exact q
    · rintro σ H ⟨c, jc, rfl, G, m, e, o⟩
      exact hd n c hR jc G H m e o
theorem erase_map {α β : Type} (f : α → β) : ∀ (xs : List α) (n : Nat), (xs.map f).eraseIdx n = (xs.eraseIdx n).map f
  | [], _ => rfl
  | _ :: _, 0 => rfl
  | a :: r, n + 1 => by
    rw [List.map_cons, List.eraseIdx_cons_succ, List.eraseIdx_cons_succ, List.map_cons, erase_map f r n]
/-- x = l.pop(i) -/
theorem sb_popA {f : α → V} {xs : List α} {R : Int → Prop} (hO : O[j]? = some (p, .lst (xs.map f))) (hv : EvB B M O σ tInt te R) (hR : ∀ n, R n → 0 ≤ n ∧ n < (xs.length : Int)) (hl : xs.length ≤ 1000) (c : ∀ (n : Nat) y, xs[n]? = some y → St B M (O.set j (p, .lst ((xs.eraseIdx n).map f))) tz D (σ.set k (some (f y)))) (hs : σ[i]? = some (some (.ref p)) := by rfl) :
    St B M O (tSeq (tAsg (tBM K "list" rPopAt (tVar i) (tCons te tNil)) (gName k)) tz) D σ := fun G H m e w =>
  ⟨_, hs, .inl ⟨rfl, _, .of (w.at_ hO).2.2⟩, hv G H m e w _ fun v n G1 H1 l e1 o1 hr r1 => by
    have r1 : v = V.int n := r1
    subst r1
    obtain ⟨q1, q2, q3⟩ := o1.at_ hO
    obtain ⟨h0, h1⟩ := hR n hr
    have hn : n.toNat < xs.length := by omega
    refine ⟨p, xs.map f, n, n.toNat, f xs[n.toNat], rfl, rfl, q3, by omega, by omega, ?_, by rw [List.getElem?_map, List.getElem?_eq_getElem hn]; rfl, ?_⟩
    · have := (ixN_seq (n := (xs.map f).length) (i := n) (j := n.toNat) (by unfold ixN; rw [if_pos h0, if_pos (by rw [List.length_map]; exact h1)])).1
      exact this
    · have z := c n.toNat xs[n.toNat] (List.getElem?_eq_getElem hn) G1 (upd H1 p (.lst ((xs.map f).eraseIdx n.toNat))) (M.mono l m) (B.set q1 e1 q2)
      have e9 : (xs.map f).eraseIdx n.toNat = (xs.eraseIdx n.toNat).map f := by
        exact erase_map f xs _
      have w9 := o1.set (o' := .lst ((xs.map f).eraseIdx n.toNat)) hO
      rw [e9] at z w9 ⊢
      exact z w9⟩
end
end G3
set_option maxRecDepth 100000
set_option maxHeartbeats 4000000
/-! G20: defs that change the box; displays; stores into owned lists. -/
namespace G3
open PySem PySem.Spec PyProof.Rows L2
section
variable {B : Bs} {M : Asr} {O : List (Addr × HO)} {σ : L2.St} {K : PySem.W.Frag} {α β γ ι : Type} {t : Ty α} {u : Ty β} {w : Ty γ} {te ta tb ti : TE} {tz : TS} {D : Ends} {i j : Nat} {p b : Addr} {x : α} {y : β}
theorem st_open {ts : TS} (h : ∀ x0 x1 x2, St B M ((b, bx x0 x1 x2) :: O) ts D σ) : St (Bx B b) M O ts D σ := fun G H m e w => by
  obtain ⟨ob, e, g, x0, x1, x2, hb⟩ := e
  exact h x0 x1 x2 G H m e ⟨List.nodup_cons.mpr ⟨fun z => by
    obtain ⟨q, hq, e2⟩ := List.mem_map.mp z
    exact (w.2 q hq).1.2 e2, w.1⟩, fun po hm => by
    rcases List.mem_cons.mp hm with rfl | hm
    · exact ⟨ob, g, hb⟩
    · exact ⟨(w.2 po hm).1.1, (w.2 po hm).2⟩⟩
/-- l[n] = e, atoms -/
theorem st_lsetA {f : α → V} {xs : List α} {n : Nat} {z : Int} (hO : O[j]? = some (p, .lst (xs.map f))) (hv : Ev M O σ (aty f) te x) (hi : ∀ H Q, Q (V.int z) H → ti σ H Q) (hn : ixN xs.length z = some n) (k : St B M (O.set j (p, .lst ((xs.set n x).map f))) tz D σ) (hs : σ[i]? = some (some (.ref p)) := by rfl) :
    St B M O (tSeq (tAsg te (gSub (tVar i) ti rSetL)) tz) D σ := fun G H m e w =>
  hv G H m (w.wl e) _ fun v G1 H1 e1 r1 => ⟨_, hs, by
    have r1 : v = f x := r1
    subst r1
    have eB := B.ext e e1
    have w1 := w.ext e1
    obtain ⟨o1, o2, o3⟩ := w1.at_ hO
    refine hi _ _ ⟨p, _, z, n, rfl, rfl, o3, by rw [List.length_map]; exact hn, ?_⟩
    rw [← List.map_set]
    exact k G1 _ (M.mono (e1.le (B.le e)) m) (B.set o1 eB o2) (w1.set hO)⟩
/-- l[n] = e -/
theorem st_lset {vs : List V} {n : Nat} {z : Int} (hO : O[j]? = some (p, .lst vs)) (hv : Ev M O σ t te x) (hi : ∀ H Q, Q (V.int z) H → ti σ H Q) (hn : ixN vs.length z = some n) (k : ∀ v, t.ok v x → St B (M.is t v x) (O.set j (p, .lst (vs.set n v))) tz D σ) (hs : σ[i]? = some (some (.ref p)) := by rfl) :
    St B M O (tSeq (tAsg te (gSub (tVar i) ti rSetL)) tz) D σ := fun G H m e w =>
  hv G H m (w.wl e) _ fun v G1 H1 e1 r1 => ⟨_, hs, by
    have eB := B.ext e e1
    have w1 := w.ext e1
    obtain ⟨o1, o2, o3⟩ := w1.at_ hO
    exact hi _ _ ⟨p, _, z, n, rfl, rfl, o3, hn, k v (t.of r1) G1 _ ⟨M.mono (e1.le (B.le e)) m, r1⟩ (B.set o1 eB o2) (w1.set hO)⟩⟩
theorem neg1 : ∀ (H : Hp) (Q : VK), Q (V.int (-1)) H → tUn (rU fun i => .int (-i)) (tC (.int 1)) σ H Q := fun H Q q => ⟨1, rfl, q⟩
theorem int0 {z : Int} : ∀ (H : Hp) (Q : VK), Q (V.int z) H → tC (.int z) σ H Q := fun H Q q => q
/-! displays -/
def XsB (B : Bs) (M : Asr) (O : List (Addr × HO)) (σ : L2.St) {α : Type} (t : Ty α) (ta : TA) (R : α → Prop) (n : Nat) : Prop := ∀ G H, M.p G → B.R G H → Own B O G H → ∀ Q : List V → Hp → Prop, (∀ vs xs G' H', Le G G' → B.R G' H' → Own B O G' H' → Fa (t.r G') vs xs → (∀ x ∈ xs, R x) → vs.length = n → Q vs H') → ta σ H Q
theorem xb_nil {R : α → Prop} : XsB B M O σ t tNil R 0 := fun G H m e w Q q => q [] [] G H (Le.refl G) e w .nil (fun x hx => absurd hx (by simp)) rfl
theorem xb_cons {tr : TA} {R : α → Prop} {n : Nat} (h : EvB B M O σ t ta R) (hr : XsB B M O σ t tr R n) : XsB B M O σ t (tCons ta tr) R (n + 1) := fun G H m e w Q q =>
  h G H m e w _ fun v x G1 H1 l1 e1 o1 hx r1 => hr G1 H1 (M.mono l1 m) e1 o1 _ fun vs xs G2 H2 l2 e2 o2 fa hR hn => q _ (x :: xs) G2 H2 (l1.trans l2) e2 o2 (.cons (t.mono l2 r1) fa) (fun z hz => by
    rcases List.mem_cons.mp hz with rfl | hz
    · exact hx
    · exact hR z hz) (by rw [List.length_cons, hn])
theorem eb_lst {tr : TA} {R : α → Prop} {n : Nat} (h : XsB B M O σ t tr R n) (hz : n ≤ 1000 := by decide) : EvB B M O σ (tLst K t) (L2.tLst tr) (fun xs => xs.length = n ∧ ∀ x ∈ xs, R x) := fun G H m e w Q q =>
  h G H m e w _ fun vs xs G1 H1 l1 e1 o1 fa hR hn => ⟨by rw [hn]; exact sz _ hz, fun p hp => by
    have x2 := Ext.new (o := .lst vs) (B.le e1) hp
    exact q _ xs _ _ (l1.trans (x2.le (B.le e1))) (B.ext e1 x2) (o1.ext x2) ⟨by rw [← fa.length, hn], hR⟩ ⟨p, vs, rfl, .of upd_same, fa.imp fun _ _ => t.mono (x2.le (B.le e1)), by rw [hn]; exact sz _ hz⟩⟩
theorem eb_pair {Ra : α → Prop} {Rb : β → Prop} (ha : EvB B M O σ t ta Ra) (hb : EvB B M O σ u tb Rb) : EvB B M O σ (tPair K t u) (L2.tTup (tCons ta (tCons tb tNil))) (fun p => Ra p.1 ∧ Rb p.2) := fun G H m e w Q q =>
  ha G H m e w _ fun v x G1 H1 l1 e1 o1 hx r1 => hb G1 H1 (M.mono l1 m) e1 o1 _ fun v2 y G2 H2 l2 e2 o2 hy r2 => ⟨by show 2 ≤ sizeLine; decide, fun p hp => by
    have x2 := Ext.new (o := .tup [v, v2]) (B.le e2) hp
    have l3 := x2.le (B.le e2)
    exact q _ (x, y) _ _ ((l1.trans l2).trans l3) (B.ext e2 x2) (o2.ext x2) ⟨hx, hy⟩ ⟨p, v, v2, rfl, .of upd_same, t.mono (l2.trans l3) r1, u.mono l3 r2⟩⟩
/-- l[n], by what is known of l and n -/
theorem eb_ix {Rl : List α → Prop} {Rn : Int → Prop} {R : α → Prop} (ha : EvB B M O σ (tLst K t) ta Rl) (hb : EvB B M O σ tInt tb Rn) (h : ∀ xs n, Rl xs → Rn n → ∃ j : Nat, n = (j : Int) ∧ j < xs.length) (hR : ∀ xs n x, Rl xs → Rn n → xs[n.toNat]? = some x → R x) : EvB B M O σ t (tOp (rIxL K) ta tb) R :=
  eb_op2 ha hb fun G H v v' xs n Q l ⟨a, vs, e, hs, fa, z⟩ h2 hx hn q => by
    subst e
    obtain ⟨j, hj, hl⟩ := h xs n hx hn
    have h2 : v' = V.int n := h2
    have hx2 : xs[j]? = some xs[j] := List.getElem?_eq_getElem hl
    obtain ⟨w, hw, r⟩ := fa.get' hx2
    exact ⟨a, vs, n, w, rfl, h2, l.sqL hs, by rw [hj]; exact atI_nat hw, q w xs[j] _ _ (.refl l) (hR xs n _ hx hn (by rw [hj, Int.toNat_natCast]; exact hx2)) r⟩
theorem eb_add {Ra Rb Rc : Int → Prop} (ha : EvB B M O σ tInt ta Ra) (hb : EvB B M O σ tInt tb Rb) (h : ∀ x y, Ra x → Rb y → Rc (x + y)) : EvB B M O σ tInt (tOp (rI0 fun i j => .int (i + j)) ta tb) Rc :=
  eb_op2 ha hb fun G H v v' x y Q l h1 h2 hx hy q => ⟨x, y, h1, h2, q _ (x + y) _ _ (.refl l) (h x y hx hy) rfl⟩
theorem eb_eqI {Ra Rb : Int → Prop} {Rc : Bool → Prop} (ha : EvB B M O σ tInt ta Ra) (hb : EvB B M O σ tInt tb Rb) (h : ∀ x y, Ra x → Rb y → Rc (decide (x = y))) : EvB B M O σ tBool (tOp rEq ta tb) Rc :=
  eb_op2 ha hb fun G H v v' x y Q l h1 h2 hx hy q => by
    have h1 : v = V.int x := h1
    have h2 : v' = V.int y := h2
    subst h1 h2
    exact ⟨rfl, q _ (decide (x = y)) _ _ (.refl l) (h x y hx hy) (by show V.bl _ = V.bl _; rw [vint_eq])⟩
theorem eb_max {Ra Rb Rc : Int → Prop} (ha : EvB B M O σ tInt ta Ra) (hb : EvB B M O σ tInt tb Rb) (h : ∀ x y, Ra x → Rb y → Rc (if y > x then y else x)) : EvB B M O σ tInt (tCB rMax2 (tCons ta (tCons tb tNil))) Rc :=
  eb_cb2 ha hb fun G H v v' x y Q l h1 h2 hx hy q => ⟨x, y, by rw [h1, h2], q _ _ _ _ (.refl l) (h x y hx hy) rfl⟩
end
/-! ### defs -/
def ZX1 {α β : Type} (t1 : Ty α) (pre : α × Unit → Prop) (u : Ty β) (P : α × Unit → β → Prop) (N : List Str) (t : TS) : Prop := ∀ (B : Bs) (D : Ends) (b : Addr) (v1 : V) (x1 : α), t1.ok v1 x1 → pre (x1, ()) → RetOk (Bx B b) u (P (x1, ())) D → St (Bx B b) (Asr.tt.is t1 v1 x1) [] t D (start N [.ref b, v1])
def ZX3 {α β γ δ : Type} (t1 : Ty α) (t2 : Ty γ) (t3 : Ty δ) (pre : α × γ × δ × Unit → Prop) (u : Ty β) (P : α × γ × δ × Unit → β → Prop) (N : List Str) (t : TS) : Prop := ∀ (B : Bs) (D : Ends) (b : Addr) (v1 v2 v3 : V) (x1 : α) (x2 : γ) (x3 : δ), t1.ok v1 x1 → t2.ok v2 x2 → t3.ok v3 x3 → pre (x1, x2, x3, ()) → RetOk (Bx B b) u (P (x1, x2, x3, ())) D → St (Bx B b) (((Asr.tt.is t1 v1 x1).is t2 v2 x2).is t3 v3 x3) [] t D (start N [.ref b, v1, v2, v3])
section
variable {P0 : Program} {w : World} {K : PySem.W.Frag} {mg : Str → Option Value} {base : Heap} {x : Str} {st : Stmt} {N ps : List Str} {k : Nat} {α β γ δ ι : Type} {u : Ty β}
theorem st_startX {G H : Hp} {b : Addr} {x0 x1 x2 : Int} {M : Asr} {ts : TS} {D : Ends} {σ : L2.St} (h : St (Bx (Bs.ins G H b) b) M [] ts D σ) (m : M.p G) (l : Le G H) (g : G b = none) (hb : H b = some (bx x0 x1 x2)) : ts D σ H :=
  h G H m ⟨.inr rfl, ⟨fun _ _ _ => rfl, fun _ _ _ z => z, l⟩, g, x0, x1, x2, hb⟩ .nil
theorem calX1 {t1 : Ty α} {pre : α × Unit → Prop} {P : α × Unit → β → Prop} {p0 p1 : Str} (Dd : Dn K mg x st [p0, p1]) (S : FnScope N [p0, p1] (C8.fnScope st)) (h : Body P0 w K mg base N x st k (ZX1 t1 pre u P N)) : C8.Cal P0 w K mg base (k + 1) x (SpX (aCons t1 aNil) pre u P) [] := by
  obtain ⟨f, fd, Df, b⟩ := Dd.ex
  refine ⟨f, fd, _, [], C8.fn0 Df.fn S (fun vs H Q E ⟨G, b, x0, x1, x2, vs', i, e, _, _, _, ⟨v1, _, e1, _, e2⟩, _⟩ => by subst e e1; have : _ = _ := e2; subst this; rfl) fun cdv A' outer s H vs Q E hr h2 => ?_, Df.mgf, Df.kp, b, .nil⟩
  obtain ⟨t, ht, z⟩ := h f cdv A' outer s H E hr
  refine ⟨t, ht, ?_⟩
  obtain ⟨G, b, x0, x1, x2, vs', i, e, l, g, hb, a, p, q⟩ := h2
  subst e
  obtain ⟨v1, _, rfl, h1, e2⟩ := a
  have e3 : _ = _ := e2
  subst e3
  exact st_startX (z (Bs.ins G H b) _ b v1 i.1 (t1.of h1) p fun v y G' H' ⟨_, ex, g2, y0, y1, y2, hb2⟩ hR r => q v y G' H' y0 y1 y2 ex g2 hb2 hR r) ⟨trivial, h1⟩ l g hb
theorem calX3 {t1 : Ty α} {t2 : Ty γ} {t3 : Ty δ} {pre : α × γ × δ × Unit → Prop} {P : α × γ × δ × Unit → β → Prop} {p0 p1 p2 p3 : Str} (Dd : Dn K mg x st [p0, p1, p2, p3]) (S : FnScope N [p0, p1, p2, p3] (C8.fnScope st)) (h : Body P0 w K mg base N x st k (ZX3 t1 t2 t3 pre u P N)) : C8.Cal P0 w K mg base (k + 1) x (SpX (aCons t1 (aCons t2 (aCons t3 aNil))) pre u P) [] := by
  obtain ⟨f, fd, Df, b⟩ := Dd.ex
  refine ⟨f, fd, _, [], C8.fn0 Df.fn S (fun vs H Q E ⟨G, b, x0, x1, x2, vs', i, e, _, _, _, ⟨v1, _, e1, _, v2, _, e3, _, v3, _, e4, _, e2⟩, _⟩ => by subst e e1 e3 e4; have : _ = _ := e2; subst this; rfl) fun cdv A' outer s H vs Q E hr h2 => ?_, Df.mgf, Df.kp, b, .nil⟩
  obtain ⟨t, ht, z⟩ := h f cdv A' outer s H E hr
  refine ⟨t, ht, ?_⟩
  obtain ⟨G, b, x0, x1, x2, vs', i, e, l, g, hb, a, p, q⟩ := h2
  subst e
  obtain ⟨v1, _, rfl, h1, v2, _, rfl, h2, v3, _, rfl, h3, e2⟩ := a
  have e3 : _ = _ := e2
  subst e3
  exact st_startX (z (Bs.ins G H b) _ b v1 v2 v3 i.1 i.2.1 i.2.2.1 (t1.of h1) (t2.of h2) (t3.of h3) p fun v y G' H' ⟨_, ex, g2, y0, y1, y2, hb2⟩ hR r => q v y G' H' y0 y1 y2 ex g2 hb2 hR r) ⟨⟨⟨trivial, h1⟩, h2⟩, h3⟩ l g hb
end
end G3
set_option maxRecDepth 100000
set_option maxHeartbeats 4000000
/-! L1: the law's cells, boxes, numbers. -/
namespace G3
open PySem PySem.Spec PyProof.Rows L2
section
variable (P : Program) (w : World) (K : PySem.W.Frag) (mg : Str → Option Value) (base : Heap) (C : Addr)
abbrev P_law_take : Prop := C8.Cal P w K mg base 1 "_law_take" (SpX (aCons tInt aNil) (fun i => 0 < i.1 ∧ i.1 ≤ 1000) tInt fun i r => 0 ≤ r ∧ r < i.1) []
abbrev P_law_cell : Prop := C8.Cal P w K mg base 1 "_law_cell" (SpR (aCons (tLst K tInt) (aCons tInt aNil)) (fun i => 0 ≤ i.2.1 ∧ i.2.1 ≤ 10) tInt fun _ _ => True) []
/-- a new box -/
def SpNB (A : TyA (Int × Unit)) : Sp := fun vs H Q _ => ∃ G i, Le G H ∧ A.r G vs i ∧ ∀ p x0 x1 x2 G' H', Ext G H G' H' → H p = none → G' p = none → H' p = some (bx x0 x1 x2) → Q (.ref p) H'
abbrev P_law_box : Prop := C8.Cal P w K mg base 1 "_law_box" (SpNB (aCons tInt aNil)) []
end
section
variable {P : Program} {w : World} {K : PySem.W.Frag} {mg : Str → Option Value} {base : Heap} {C : Addr}
abbrev s_law_take : Stmt := top 60
abbrev N_law_take : List Str := ["_law_box_here", "_law_many_here", "_law_digit", "_law_number"]
theorem sc_law_take : FnScope N_law_take ["_law_box_here", "_law_many_here"] (C8.fnScope s_law_take) := ⟨rfl, rfl, rfl, by decide +kernel, rfl, by decide +kernel, by decide +kernel⟩
theorem ok_law_take (T : Bi mg) (Dd : Dn K mg "_law_take" s_law_take ["_law_box_here", "_law_many_here"]) : P_law_take P w K mg base := by
  refine calX1 Dd sc_law_take fun f cdv A outer s H E hr => ?_
  have hu := hu_of hr
  refine ⟨_, (pss_cons (ps_if (pt_cmpR op_gt (pe_ix (ixL K) (pv 0) pe_int (fun _ _ => rfl)) pe_int (nomark _))
    (pss_cons (ps_set (i := 2) sc_law_take.nd rfl (Or.inl rfl) (pe_op op_mod (pe_ix (ixL K) (pv 0) pe_int (fun _ _ => rfl)) (pv 1))) (
      pss_cons (ps_asg (pe_op op_fdiv (pe_ix (ixL K) (pv 0) pe_int (fun _ _ => rfl)) (pv 1)) (pg_sub (pv 0) pe_int set_list)) (
      pss_cons (ps_ret (pv 2)) pss_nil)))
    pss_nil) (
    pss_cons (ps_asg (pe_op op_add (pe_ix (ixL K) (pv 0) pe_int (fun _ _ => rfl)) pe_int) (pg_sub (pv 0) pe_int set_list)) (
    pss_cons (ps_set (i := 3) sc_law_take.nd rfl (Or.inl rfl) (pe_op op_mod (pe_op op_add (pe_op op_add (pe_op op_mul (pe_ix (ixL K) (pv 0) pe_int (fun _ _ => rfl)) pe_int) (pe_op op_mul pe_int (pe_ix (ixL K) (pv 0) pe_int (fun _ _ => rfl)))) pe_int) pe_int)) (
    pss_cons (ps_set (i := 3) sc_law_take.nd rfl (Or.inl rfl) (pe_op op_mod (pe_op op_mul (pe_op op_mod (pe_op op_mul (pv 3) (pv 3)) pe_int) pe_int) pe_int)) (
    pss_cons (ps_ret (pe_op op_mod (pe_op op_fdiv (pe_op op_mod (pe_op op_mul (pv 3) (pv 3)) pe_int) pe_int) (pv 1))) pss_nil))))), ?_⟩
  rintro B D b v1 many rfl hm ret
  have hm : 0 < many ∧ many ≤ 1000 := hm
  have hdiv : ∀ n, CDiv n many := fun n => ⟨hm.1, by omega⟩
  have hmod : ∀ n : Int, 0 ≤ n % many ∧ n % many < many := fun n => ⟨Int.emod_nonneg _ (by omega), Int.emod_lt_of_pos _ hm.1⟩
  refine st_open fun x0 x1 x2 => ?_
  have get : ∀ {M : Asr} {o2 o3 : Option V} {y0 y1 y2 : Int} (j : Nat) (z : Int), [y0, y1, y2][j]? = some z → Ev M [(b, .lst ([y0, y1, y2].map V.int))] [some (.ref b), some (.int many), o2, o3] tInt (tOp (rIxL K) (tVar 0) (tC (.int (j : Int)))) z := fun j z h => ev_oix (j := 0) rfl ev_int rfl h
  refine st_if (et_test (ev_gt (get 0 x0 rfl) ev_int)) (fun hb => ?_) (fun hb => ?_)
  · refine st_asgA (f := V.int) (ev_mod (get 0 x0 rfl) ev_var hm.1) ?_
    refine st_lsetA (f := V.int) (xs := [x0, x1, x2]) (n := 0) (j := 0) rfl (ev_fdiv (get 0 x0 rfl) ev_var (hdiv _)) int0 rfl ?_
    exact st_box (y0 := x0 / many) (y1 := x1) (y2 := x2) (st_retF ret ev_var (hmod x0))
  · refine st_thru ?_
    refine st_lsetA (f := V.int) (xs := [x0, x1, x2]) (n := 2) (j := 0) rfl (ev_add (get 2 x2 rfl) ev_int) int0 rfl ?_
    have cm : ∀ n : Int, CMul n 69621 := fun n => .inr ⟨by omega, by omega⟩
    refine st_asgA (f := V.int) (ev_mod (ev_add (ev_add (ev_mul (get 1 x1 rfl) ev_int (.inr ⟨by omega, by omega⟩)) (ev_mul ev_int (get 2 (x2 + 1) rfl) (.inl ⟨by omega, by omega⟩))) ev_int) ev_int (by omega)) ?_
    generalize hn : (x1 * 48271 + 7919 * (x2 + 1) + 11) % 2147483629 = n
    have b1 : 0 ≤ n ∧ n < 2147483629 := by
      rw [← hn]
      exact ⟨Int.emod_nonneg _ (by omega), Int.emod_lt_of_pos _ (by omega)⟩
    refine st_asgA (f := V.int) (ev_mod (ev_mul (ev_mod (ev_mul ev_varE ev_varE (.inl ⟨by omega, by omega⟩)) ev_int (by omega)) ev_int (cm _)) ev_int (by omega)) ?_
    generalize hk : n * n % 2147483587 * 69621 % 2147483647 = k
    have b2 : 0 ≤ k ∧ k < 2147483647 := by
      rw [← hk]
      exact ⟨Int.emod_nonneg _ (by omega), Int.emod_lt_of_pos _ (by omega)⟩
    exact st_box (y0 := x0) (y1 := x1) (y2 := x2 + 1) (st_retF ret (ev_mod (ev_fdiv (ev_mod (ev_mul ev_varE ev_varE (.inl ⟨by omega, by omega⟩)) ev_int (by omega)) ev_int ⟨by omega, by omega⟩) ev_var hm.1) (hmod _))
abbrev s_law_cell : Stmt := top 58
abbrev N_law_cell : List Str := ["_law_script", "_law_k"]
theorem sc_law_cell : FnScope N_law_cell ["_law_script", "_law_k"] (C8.fnScope s_law_cell) := ⟨rfl, rfl, rfl, by decide +kernel, rfl, by decide +kernel, by decide +kernel⟩
theorem ok_law_cell (T : Bi mg) (Dd : Dn K mg "_law_cell" s_law_cell ["_law_script", "_law_k"]) : P_law_cell P w K mg base := by
  refine cal2 Dd sc_law_cell fun f cdv A outer s H E hr => ⟨_, (pss_cons (ps_if (pt_cmpR op_lt (pv 1) (pe_callB (k_len K) (by rfl) T.len (by decide +kernel) (pa_cons (pv 0) pa_nil)) (nomark _))
    (pss_cons (ps_ret (pe_ix (ixL K) (pv 0) (pv 1) (fun _ _ => rfl))) pss_nil)
    pss_nil) (
    pss_cons (ps_if (pt_cmpR op_eq (pe_callB (k_len K) (by rfl) T.len (by decide +kernel) (pa_cons (pv 0) pa_nil)) pe_int (nomark _))
    (pss_cons (ps_ret (pe_op op_add (pe_op op_mul pe_int (pv 1)) pe_int)) pss_nil)
    pss_nil) (
    pss_cons (ps_ret (pe_op op_add (pe_op op_fdiv (pe_ix (ixL K) (pv 0) (pe_op op_mod (pv 1) (pe_callB (k_len K) (by rfl) T.len (by decide +kernel) (pa_cons (pv 0) pa_nil))) (fun _ _ => rfl)) (pe_op op_add (pv 1) pe_int)) (pe_op op_mul pe_int (pv 1)))) pss_nil))), ?_⟩
  rintro B D v1 v2 script k h1 rfl hk ret -
  have hk : 0 ≤ k ∧ k ≤ 10 := hk
  refine st_if (et_test (ev_lt ev_var (ev_lenL ev_var))) (fun hb => ?_) (fun hb => ?_)
  · have hb := of_decide_eq_true hb
    have hn : k.toNat < script.length := by omega
    exact st_retF ret (ev_ixL (i := k.toNat) (x := script[k.toNat]) ev_var ev_var (by omega) (List.getElem?_eq_getElem hn)) trivial
  · refine st_thru (st_if (et_test (ev_eqI (ev_lenL ev_var) ev_int)) (fun hb2 => ?_) (fun hb2 => ?_))
    · exact st_retF ret (ev_add (ev_mul ev_int ev_var (.inl ⟨by omega, by omega⟩)) ev_int) trivial
    · have hb2 := of_decide_eq_false hb2
      have hp : (0 : Int) < (script.length : Int) := by omega
      have h0 := Int.emod_nonneg k (show (script.length : Int) ≠ 0 by omega)
      have h1 := Int.emod_lt_of_pos k hp
      have hn : (k % (script.length : Int)).toNat < script.length := by omega
      exact st_thru (st_retF ret (ev_add (ev_fdiv (ev_ixL (i := (k % (script.length : Int)).toNat) (x := script[(k % (script.length : Int)).toNat]) ev_var (ev_mod ev_var (ev_lenL ev_var) hp) (by omega) (List.getElem?_eq_getElem hn)) (ev_add ev_var ev_int) ⟨by omega, by omega⟩) (ev_mul ev_int ev_var (.inl ⟨by omega, by omega⟩))) trivial)
abbrev s_law_box : Stmt := top 59
abbrev N_law_box : List Str := ["_law_cell_here"]
theorem sc_law_box : FnScope N_law_box ["_law_cell_here"] (C8.fnScope s_law_box) := ⟨rfl, rfl, rfl, by decide +kernel, rfl, by decide +kernel, by decide +kernel⟩
theorem ok_law_box (T : Bi mg) (Dd : Dn K mg "_law_box" s_law_box ["_law_cell_here"]) : P_law_box P w K mg base := by
  obtain ⟨fa, fd, Df, b⟩ := Dd.ex
  refine ⟨fa, fd, _, [], C8.fn0 Df.fn sc_law_box (fun vs H Q E ⟨G, i, _, ⟨v1, _, e1, _, e2⟩, _⟩ => by subst e1; have : _ = _ := e2; subst this; rfl) fun cdv A' outer s H vs Q E hr h2 => ⟨_, (pss_cons (ps_ret (pe_lst (pa_cons (pe_callB (c_max2 rfl) (by rfl) T.max (by decide +kernel) (pa_cons pe_int (pa_cons (pe_op op_sub (pv 0) (pe_op op_pow pe_int pe_int)) pa_nil))) (pa_cons (pe_op op_mod (pv 0) pe_int) (pa_cons pe_int pa_nil))))) pss_nil), ?_⟩, Df.mgf, Df.kp, b, .nil⟩
  obtain ⟨G, i, l, ⟨v1, _, rfl, h1, e2⟩, q⟩ := h2
  have e3 : _ = _ := e2
  subst e3
  obtain ⟨n, _⟩ := i
  have h1 : v1 = V.int n := h1
  subst h1
  have hx : EvXs Asr.tt [] (start N_law_box [V.int n]) tInt _ [_, _, _] := exs_cons (ev_max2 (ev_int (i := 0)) (ev_sub (ev_varE (i := 0) (f := V.int) (x := n)) (ev_pow (ev_int (i := 10)) (ev_int (i := 18)) ⟨by omega, by omega, by decide⟩))) (exs_cons (ev_mod (ev_varE (i := 0) (f := V.int) (x := n)) (ev_int (i := 2147483647)) (by omega)) (exs_cons (ev_int (i := 0)) exs_nil))
  refine hx G H trivial (.nil l) (fun xs H1 => xs.length ≤ sizeLine ∧ ∀ p, H1 p = none → Q (.ref p) (upd H1 p (.lst xs))) fun vs G1 H1 e1 fa => ?_
  have ev : vs = List.map V.int _ := fa.atoms
  subst ev
  refine ⟨sz 3, fun p hp => ?_⟩
  have hn := e1.hh.free hp
  exact q p _ _ _ G1 (upd H1 p _) (e1.trans (.newO e1.gh hp)) hn (e1.gh.free hp) upd_same
end
end G3
set_option maxRecDepth 100000
set_option maxHeartbeats 4000000
/-! LB: names. -/
namespace G3
open PySem PySem.Spec PyProof.Rows L2
def wordsL : List Str := ("held" : Str) :: "person" :: "ranked" :: "place" :: "row" :: "liked" :: "b" :: "back" :: "a1" :: "ab" :: "leave" :: "abc" :: "ba" :: "a" :: []
def nameB (s : Str) : Bool := decide (s.cps.toList.length ≤ 8) && ((match s.cps.toList with | [] => false | c :: _ => decide (97 ≤ c) && decide (c ≤ 122)) && s.cps.toList.all fun c => decide (c ∈ signsL))
theorem nameB_ok {s : Str} (h : nameB s = true) : NameOk s := by
  unfold nameB at h
  rw [Bool.and_eq_true, Bool.and_eq_true] at h
  obtain ⟨h1, h2, h3⟩ := h
  refine ⟨of_decide_eq_true h1, ?_, fun c hc => of_decide_eq_true (List.all_eq_true.mp h3 c hc)⟩
  cases e : s.cps.toList with
  | nil => rw [e] at h2; cases h2
  | cons c r =>
    rw [e] at h2
    rw [Bool.and_eq_true] at h2
    exact ⟨c, r, rfl, of_decide_eq_true h2.1, of_decide_eq_true h2.2⟩
def wF (a k : Nat) : Str := wordsL.getD ((a + 3 * k) % 14) ""
theorem wF_nd : ∀ a < 14, ∀ m < 4, ((List.range m).map (wF a)).Nodup := by decide +kernel
theorem wF_ok : ∀ a < 14, ∀ k < 4, nameB (wF a k) = true := by decide +kernel
structure NamesOk (many : Int) (ys : List Str) : Prop where
  len : (ys.length : Int) = many
  nd : ys.Nodup
  ok : ∀ y ∈ ys, NameOk y
section
variable (P : Program) (w : World) (K : PySem.W.Frag) (mg : Str → Option Value) (base : Heap) (C : Addr)
abbrev P_law_names : Prop := C8.Cal P w K mg base 2 "_law_names" (SpX (aCons tInt aNil) (fun i => 0 ≤ i.1 ∧ i.1 ≤ 3) (tLst K tStr) fun i ys => NamesOk i.1 ys) []
end
section
variable {B : Bs} {M : Asr} {O : List (Addr × HO)} {σ : L2.St} {K : PySem.W.Frag} {te ta tb : TE} {b : Addr} {i : Nat} {E : XK}
theorem eb_take {Rm : Int → Prop} (h : EvB (Bx B b) M O σ tInt te Rm) (hm : ∀ m, Rm m → 0 < m ∧ m ≤ 1000) (hs : σ[i]? = some (some (.ref b)) := by rfl) :
    EvB (Bx B b) M O σ tInt (tCall (SpX (aCons tInt aNil) (fun i => 0 < i.1 ∧ i.1 ≤ 1000) tInt fun i r => 0 ≤ r ∧ r < i.1) [] E (tCons (tVar i) (tCons te tNil))) (fun r => ∃ m, Rm m ∧ 0 ≤ r ∧ r < m) :=
  eb_imp (eb_callX (ab_cons h ab_nil) (fun a ha => hm a.1 ha.1) hs) fun r ⟨a, ha, hr⟩ => ⟨a.1, ha.1, hr⟩
theorem eb_takeC {m : Int} (hm : 0 < m ∧ m ≤ 1000 := by decide) (hs : σ[i]? = some (some (.ref b)) := by rfl) :
    EvB (Bx B b) M O σ tInt (tCall (SpX (aCons tInt aNil) (fun i => 0 < i.1 ∧ i.1 ≤ 1000) tInt fun i r => 0 ≤ r ∧ r < i.1) [] E (tCons (tVar i) (tCons (tC (.int m)) tNil))) (fun r => 0 ≤ r ∧ r < m) :=
  eb_imp (eb_take (eb_E ev_int) (fun n hn => hn ▸ hm) hs) fun r ⟨n, hn, h0, h1⟩ => ⟨h0, hn ▸ h1⟩
theorem ab_1 {α : Type} {t : Ty α} {B : Bs} {R : α → Prop} (h : EvB B M O σ t te R) : EvAB B M O σ (aCons t aNil) (tCons te tNil) (fun i => R i.1) := fun G H m e ow Q q => ab_cons h ab_nil G H m e ow Q fun vs i G' H' l e1 o1 hs r => q vs i G' H' l e1 o1 hs.1 r
def rJoin (K : PySem.W.Frag) : V → List V → Hp → VK → Prop := fun x xs H Q => ∃ a p, ∃ ys : List Str, x = .str a ∧ xs = [.ref p] ∧ (SqL K H p (ys.map V.str) ∨ SqT K H p (ys.map V.str)) ∧
      (ys.map (·.length)).sum + ys.length * a.length ≤ 16777216 ∧ Q (.str (Txt.join a ys)) H
theorem eb_join {sep : Str} {R : List Str → Prop} (h : EvB B M O σ (tLst K tStr) te R) (hz : ∀ ys, R ys → (ys.map (·.length)).sum + ys.length * sep.length ≤ 16777216) : EvB B M O σ tStr (tM1 (rJoin K) (tC (.str sep)) te) (fun s => ∃ ys, R ys ∧ s = Txt.join sep ys) := fun G H m e w Q q =>
  ⟨⟨sep, rfl⟩, h G H m e w _ fun v ys G1 H1 l1 e1 o1 hR ⟨a, vs, ev, hs, fa, z⟩ => by
    subst ev
    have e2 : vs = ys.map V.str := fa.atoms
    subst e2
    exact ⟨sep, a, ys, rfl, rfl, .inl ((B.le e1).sqL hs), hz ys hR, q _ _ G1 H1 l1 e1 o1 ⟨ys, hR, rfl⟩ rfl⟩⟩
def rAddStr : R2 := fun x y H Q => ∃ i j, x = .str i ∧ y = .str j ∧ i.length + j.length ≤ sizeLine ∧ Q (.str (i ++ j)) H
theorem ev_catS {x y : Str} (ha : Ev M O σ tStr ta x) (hb : Ev M O σ tStr tb y) (hz : x.length + y.length ≤ 1000) : Ev M O σ tStr (tOp rAddStr ta tb) (x ++ y) := ev_opA ha hb fun G H v v' Q l h1 h2 q => ⟨x, y, h1, h2, Nat.le_trans hz (by decide), q⟩
theorem ev_slSto {l : List Nat} {n : Int} (ha : Ev M O σ tStr ta (SX.S l)) (hb : Ev M O σ tInt tb n) (hn : 0 ≤ n) (hl : l.length ≤ 1000) : Ev M O σ tStr (tSl C8.rSlX ta tNoPart (tPart tb)) (SX.S (l.take n.toNat)) := fun G H m l0 Q q =>
  ha G H m l0 _ fun v G1 H1 e1 r1 => hb G1 H1 (M.mono (e1.le l0.le) m) (l0.ext e1) _ fun v2 G2 H2 e2 r2 => ⟨n, r2, SX.S l, r1, by rw [SX.S_len]; exact sz _ hl, q _ G2 H2 (e1.trans e2) (by rw [SX.slice_to hn]; rfl)⟩
theorem ev_slSfrom {l : List Nat} {n : Int} (ha : Ev M O σ tStr ta (SX.S l)) (hb : Ev M O σ tInt tb n) (hn : 0 ≤ n) (hl : l.length ≤ 1000) : Ev M O σ tStr (tSl C8.rSlX ta (tPart tb) tNoPart) (SX.S (l.drop n.toNat)) := fun G H m l0 Q q =>
  ha G H m l0 _ fun v G1 H1 e1 r1 => hb G1 H1 (M.mono (e1.le l0.le) m) (l0.ext e1) _ fun v2 G2 H2 e2 r2 => ⟨n, r2, SX.S l, r1, by rw [SX.S_len]; exact sz _ hl, q _ G2 H2 (e1.trans e2) (by rw [SX.slice_from hn]; rfl)⟩
end
theorem fa_range {β : Type} {f : Nat → β} : ∀ {xs : List Nat} {ys : List β}, Fa (fun k y => y = f k) xs ys → ys = xs.map f
  | _, _, .nil => rfl
  | _, _, .cons h r => by rw [List.map_cons, h, fa_range r]
def lettersL : List Nat := (Str.ofString "abcdefghijklmnopqrstuvwxyz").cps.toList
theorem letters_at : ∀ i < 26, lettersL[i]? = some (97 + i) := by decide +kernel
theorem letters_sign : ∀ c < 123, 97 ≤ c → c ∈ signsL := by decide +kernel
theorem sfx_sign : ∀ k < 3, ∀ c ∈ ([122, 57] : List Nat).take k, c ∈ signsL := by decide +kernel
/-- a letter as a text -/
def isLetter (s : Str) : Prop := ∃ c, 97 ≤ c ∧ c ≤ 122 ∧ s = SX.S [c]
theorem join_letters : ∀ {ys : List Str}, (∀ y ∈ ys, isLetter y) → ∃ l : List Nat, l.length = ys.length ∧ (∀ c ∈ l, 97 ≤ c ∧ c ≤ 122) ∧ ys = l.map fun c => SX.S [c]
  | [], _ => ⟨[], rfl, fun c h => absurd h (by simp), rfl⟩
  | y :: r, h => by
    obtain ⟨c, h1, h2, e⟩ := h y (by simp)
    obtain ⟨l, hl, hc, er⟩ := join_letters (ys := r) fun z hz => h z (by simp [hz])
    refine ⟨c :: l, by rw [List.length_cons, List.length_cons, hl], fun d hd => ?_, by rw [List.map_cons, ← er, e]⟩
    rcases List.mem_cons.mp hd with z | z
    · rw [z]
      exact ⟨h1, h2⟩
    · exact hc d z
theorem joinL_nil : ∀ (l : List Nat), TL.joinL [] (l.map fun c => [c]) = l
  | [] => rfl
  | [c] => rfl
  | c :: d :: r => by
    have := joinL_nil (d :: r)
    rw [List.map_cons] at this
    rw [List.map_cons, List.map_cons]
    show [c] ++ ([] ++ TL.joinL [] _) = _
    rw [this]
    rfl
theorem join_S1 (l : List Nat) : Txt.join (SX.S []) (l.map fun c => SX.S [c]) = SX.S l := by
  have := SX.join_S [] (l.map fun c => [c])
  rw [List.map_map] at this
  rw [show (l.map fun c => SX.S [c]) = l.map (SX.S ∘ fun c => [c]) from rfl, this, joinL_nil]
/-- the k-th name -/
def nmL (l : List Nat) (a f k : Nat) : List Nat := l.take a ++ [97 + (f + 7 * k) % 26] ++ l.drop a ++ ([122, 57] : List Nat).take (k % 3)
theorem nmL_len {l : List Nat} {a f k : Nat} (hk : k < 3) : (nmL l a f k).length = l.length + 1 + k := by
  unfold nmL
  rw [List.length_append, List.length_append, List.length_append, List.length_take, List.length_drop, List.length_take]
  simp only [List.length_cons, List.length_nil]
  omega
theorem nmL_ok {l : List Nat} {a f k : Nat} (hl : l.length ≤ 5) (hc : ∀ c ∈ l, 97 ≤ c ∧ c ≤ 122) (hk : k < 3) : NameOk (SX.S (nmL l a f k)) := by
  have hs : (f + 7 * k) % 26 < 26 := Nat.mod_lt _ (by omega)
  refine ⟨?_, ?_, ?_⟩
  · show (nmL l a f k).length ≤ 8
    rw [nmL_len hk]
    omega
  · show ∃ c r, nmL l a f k = c :: r ∧ _
    unfold nmL
    cases e : l.take a with
    | nil => exact ⟨97 + (f + 7 * k) % 26, l.drop a ++ ([122, 57] : List Nat).take (k % 3), by simp, by omega, by omega⟩
    | cons c r =>
      have hcl : c ∈ l := List.mem_of_mem_take (i := a) (by rw [e]; simp)
      exact ⟨c, r ++ [97 + (f + 7 * k) % 26] ++ l.drop a ++ ([122, 57] : List Nat).take (k % 3), by simp, (hc c hcl).1, (hc c hcl).2⟩
  · show ∀ c ∈ nmL l a f k, c ∈ signsL
    intro c h
    unfold nmL at h
    rw [List.mem_append, List.mem_append, List.mem_append] at h
    rcases h with ((h | h) | h) | h
    · have := hc c (List.mem_of_mem_take h)
      exact letters_sign c (by omega) this.1
    · rw [List.mem_singleton.mp h]
      exact letters_sign _ (by omega) (by omega)
    · have := hc c (List.mem_of_mem_drop h)
      exact letters_sign c (by omega) this.1
    · exact sfx_sign (k % 3) (Nat.mod_lt _ (by omega)) c h
theorem nmL_nd {l : List Nat} {a f : Nat} : ∀ m ≤ 3, ((List.range m).map fun k => SX.S (nmL l a f k)).Nodup := by
  intro m hm
  refine List.pairwise_map.mpr (List.Pairwise.imp_of_mem (fun {x y} hx hy hne => ?_) List.nodup_range)
  intro e
  have e1 := congrArg List.length (SX.S_inj e)
  rw [List.mem_range] at hx hy
  rw [nmL_len (by omega), nmL_len (by omega)] at e1
  exact hne (by omega)
section
variable {P : Program} {w : World} {K : PySem.W.Frag} {mg : Str → Option Value} {base : Heap} {C : Addr}
abbrev s_law_names : Stmt := top 61
abbrev N_law_names : List Str := ["_law_box_here", "_law_many_here", "_law_letters", "_law_words", "_law_at", "_law_k", "_law_base", "_law_first", "_law_names_here", "_law_sign"]
theorem sc_law_names : FnScope N_law_names ["_law_box_here", "_law_many_here"] (C8.fnScope s_law_names) := ⟨rfl, rfl, rfl, by decide +kernel, rfl, by decide +kernel, by decide +kernel⟩
theorem ok_law_names (T : Bi mg) (Dd : Dn K mg "_law_names" s_law_names ["_law_box_here", "_law_many_here"]) (c__law_take : P_law_take P w K mg base) : P_law_names P w K mg base := by
  refine calX1 Dd sc_law_names fun f cdv A outer s H E hr => ?_
  have hu := hu_of hr
  refine ⟨_, (pss_cons (ps_set (i := 2) sc_law_names.nd rfl (Or.inr rfl) pe_str) (
    pss_cons (ps_set (i := 3) sc_law_names.nd rfl (Or.inr rfl) (pe_lst (pa_cons pe_str (pa_cons pe_str (pa_cons pe_str (pa_cons pe_str (pa_cons pe_str (pa_cons pe_str (pa_cons pe_str (pa_cons pe_str (pa_cons pe_str (pa_cons pe_str (pa_cons pe_str (pa_cons pe_str (pa_cons pe_str (pa_cons pe_str pa_nil)))))))))))))))) (
    pss_cons (ps_if (pt_cmpR op_eq (C8.pe_c c__law_take hr (by decide) (by rfl) (pa_cons (pv 0) (pa_cons pe_int pa_nil))) pe_int (nomark _))
    (pss_cons (ps_set (i := 4) sc_law_names.nd rfl (Or.inr rfl) (C8.pe_c c__law_take hr (by decide) (by rfl) (pa_cons (pv 0) (pa_cons pe_int pa_nil)))) (
      pss_cons (ps_ret (pe_lc (own := [("_law_k", 5)]) (g := gName 5) (tt := tYes) (by rfl) sc_law_names.nd (pi_range1 (by rfl) T.range (pa_cons (pv 1) pa_nil)) (blkOk_by (own := [("_law_k", 5)]) (N := N_law_names) (sc := C8.fnScope s_law_names) (by decide +kernel)) (fun _ _ _ _ _ => (pg_name (i := 5) sc_law_names.nd rfl (Or.inl rfl))) (fun _ _ _ _ _ => pts_nil) (fun _ _ _ _ _ => (pe_ix (ixL K) (pv 3) (pe_op op_mod (pe_op op_add (pv 4) (pe_op op_mul pe_int (pv 5))) pe_int) (fun _ _ => rfl))))) pss_nil))
    pss_nil) (
    pss_cons (ps_set (i := 6) sc_law_names.nd rfl (Or.inl rfl) (pe_join pe_str (pe_lc (own := [("_law_k", 5)]) (g := gName 5) (tt := tYes) (by rfl) sc_law_names.nd (pi_range1 (by rfl) T.range (pa_cons (C8.pe_c c__law_take hr (by decide) (by rfl) (pa_cons (pv 0) (pa_cons pe_int pa_nil))) pa_nil)) (blkOk_by (own := [("_law_k", 5)]) (N := N_law_names) (sc := C8.fnScope s_law_names) (by decide +kernel)) (fun _ _ _ _ _ => (pg_name (i := 5) sc_law_names.nd rfl (Or.inl rfl))) (fun _ _ _ _ _ => pts_nil) (fun _ _ _ _ _ => (pe_ix ix_str (pv 2) (C8.pe_c c__law_take hr (by decide) (by rfl) (pa_cons (pv 0) (pa_cons pe_int pa_nil))) (fun _ _ => rfl)))))) (
    pss_cons (ps_set (i := 4) sc_law_names.nd rfl (Or.inr rfl) (C8.pe_c c__law_take hr (by decide) (by rfl) (pa_cons (pv 0) (pa_cons (pe_op op_add (pe_callB c_lenS (by rfl) T.len (by decide +kernel) (pa_cons (pv 6) pa_nil)) pe_int) pa_nil)))) (
    pss_cons (ps_set (i := 7) sc_law_names.nd rfl (Or.inl rfl) (C8.pe_c c__law_take hr (by decide) (by rfl) (pa_cons (pv 0) (pa_cons pe_int pa_nil)))) (
    pss_cons (ps_set (i := 8) sc_law_names.nd rfl (Or.inl rfl) (pe_lst pa_nil)) (
    pss_cons (ps_for PassesOwn.never rfl (pi_range1 (by rfl) T.range (pa_cons (pv 1) pa_nil)) (pg_name (i := 5) sc_law_names.nd rfl (Or.inl rfl))
    (pss_cons (ps_set (i := 9) sc_law_names.nd rfl (Or.inl rfl) (pe_ix ix_str (pv 2) (pe_op op_mod (pe_op op_add (pv 7) (pe_op op_mul pe_int (pv 5))) pe_int) (fun _ _ => rfl))) (
      pss_cons (ps_expr (k_bm K rfl PySem.F.plainAttrs_list PySem.F.slot_list_append PySem.F.type_list_append mt_append (pv 8) (pa_cons (pe_op op_add_str (pe_op op_add_str (pe_op op_add_str (pe_slice C8.sl_txt (pv 6) po_none (po_some (pv 4))) (pv 9)) (pe_slice C8.sl_txt (pv 6) (po_some (pv 4)) po_none)) (pe_slice C8.sl_txt pe_str po_none (po_some (pe_op op_mod (pv 5) pe_int)))) pa_nil))) pss_nil))) (
    pss_cons (ps_ret (pv 8)) pss_nil))))))))), ?_⟩
  rintro B D b v1 many rfl hm ret
  have hm : 0 ≤ many ∧ many ≤ 3 := hm
  refine st_asgA (f := V.str) ev_str ?_
  refine st_asg (t := tLst K tStr) (x := wordsL) (ev_lst (exs_cons ev_str (exs_cons ev_str (exs_cons ev_str (exs_cons ev_str (exs_cons ev_str (exs_cons ev_str (exs_cons ev_str (exs_cons ev_str (exs_cons ev_str (exs_cons ev_str (exs_cons ev_str (exs_cons ev_str (exs_cons ev_str (exs_cons ev_str exs_nil))))))))))))))) fun v3 _ => ?_
  refine sb_if (R := fun _ => True) (tb_test (eb_eqI (eb_takeC) (eb_E ev_int) fun _ _ _ _ => trivial)) (fun _ => ?_) (fun _ => ?_)
  · refine sb_asg eb_takeC fun v4 a ha hv4 => ?_
    have hv4 : v4 = V.int a := hv4
    subst hv4
    refine sb_ret ret (eb_lcR (u := tStr) (Rn := fun n => n = many) (fun k y => y = wF a.toNat k) (ab_1 (eb_E ev_var)) (fun n hn => by omega) (fun po k n hn hk => ?_)) ?_
    · subst hn
      have hix : ((a + 3 * (k : Int)) % 14).toNat = (a.toNat + 3 * k) % 14 := by omega
      have hlt : (a.toNat + 3 * k) % 14 < wordsL.length := Nat.mod_lt _ (by decide)
      refine eb_imp (eb_E (ev_ixL (i := (a.toNat + 3 * k) % 14) (x := wordsL[(a.toNat + 3 * k) % 14]) ev_var (ev_mod (ev_add ev_var (ev_mul ev_int (ev_varE (f := V.int) (x := (k : Int))) (.inl ⟨by omega, by omega⟩))) ev_int (by omega)) (by omega) (List.getElem?_eq_getElem hlt))) fun y hy => ?_
      rw [hy]
      unfold wF
      rw [List.getD_eq_getElem?_getD, List.getElem?_eq_getElem hlt]
      rfl
    · rintro ys ⟨n, hn, fa⟩
      have hn : n = many := hn
      subst hn
      have e := fa_range fa
      have hml : n.toNat < 4 := by omega
      subst e
      refine ⟨by rw [List.length_map, List.length_range]; show ((n.toNat : Nat) : Int) = n; omega, wF_nd a.toNat (by omega) _ hml, fun y hy => ?_⟩
      obtain ⟨k, hk, e2⟩ := List.mem_map.mp hy
      rw [← e2]
      rw [List.mem_range] at hk
      exact nameB_ok (wF_ok a.toNat (by omega) k (by omega))
  · refine st_thru ?_
    refine sb_asg (t := tStr) (R := fun s => ∃ l : List Nat, s = SX.S l ∧ l.length ≤ 5 ∧ ∀ c ∈ l, 97 ≤ c ∧ c ≤ 122) (eb_imp (eb_join (K := K) (sep := "") (R := fun ys => ys.length ≤ 5 ∧ ∀ y ∈ ys, isLetter y) (eb_imp (eb_lcR (u := tStr) (Rn := fun n => 0 ≤ n ∧ n < 6) (fun k y => isLetter y) (ab_1 (eb_takeC (m := 6))) (fun n hn => by omega) (fun po k n hn hk => ?_)) ?_) ?_) ?_) fun v6 bs hbs hv6 => ?_
    · refine eb_op2 (eb_E ev_var) (eb_takeC (m := 26)) fun G H v v' x y Q l h1 h2 hx hy q => ?_
      have h1 : v = V.str x := h1
      have h2 : v' = V.int y := h2
      have hx : x = _ := hx
      subst h1 h2 hx
      have hy2 : y.toNat < 26 := by omega
      refine ⟨_, y, 97 + y.toNat, rfl, rfl, by decide, ?_, q _ (SX.S [97 + y.toNat]) _ _ (.refl l) ⟨_, by omega, by omega, rfl⟩ rfl⟩
      have := atI_nat (letters_at y.toNat hy2)
      rw [show ((y.toNat : Nat) : Int) = y by omega] at this
      exact this
    · rintro ys ⟨n, hn, fa⟩
      have hl := fa.length
      rw [List.length_range] at hl
      refine ⟨by omega, fun y hy => ?_⟩
      obtain ⟨j, hj, e⟩ := List.getElem_of_mem hy
      obtain ⟨k, _, h⟩ := fa.get' (List.getElem?_eq_getElem hj)
      rw [← e]
      exact h
    · rintro ys ⟨h1, h2⟩
      obtain ⟨l, hl, hc, e⟩ := join_letters h2
      have e3 : (ys.map (·.length)).sum = ys.length := by
        have gen : ∀ l : List Nat, ((l.map fun c => SX.S [c]).map (·.length)).sum = l.length := by
          intro l
          induction l with
          | nil => rfl
          | cons c r ih =>
            rw [List.map_cons, List.map_cons, List.sum_cons, ih, List.length_cons]
            show 1 + r.length = _
            omega
        rw [e, gen, List.length_map]
      rw [e3]
      show ys.length + ys.length * 0 ≤ 16777216
      omega
    · rintro s ⟨ys, ⟨h1, h2⟩, e⟩
      obtain ⟨l, hl, hc, e2⟩ := join_letters h2
      refine ⟨l, ?_, by omega, hc⟩
      rw [e, e2]
      exact join_S1 l
    · obtain ⟨l, rfl, hl, hc⟩ := hbs
      have hv6 : v6 = V.str (SX.S l) := hv6
      subst hv6
      refine sb_asg (t := tInt) (R := fun r => 0 ≤ r ∧ r ≤ (l.length : Int)) (eb_imp (eb_take (Rm := fun m => m = (l.length : Int) + 1) (eb_E (ev_is (ev_add (ev_lenS ev_var (by rw [SX.S_len]; exact sz _ (by omega))) ev_int) (by rw [SX.S_len]))) (fun m hm => by omega)) (fun r ⟨m, hm, h0, h1⟩ => ⟨h0, by omega⟩)) fun v4 a ha hv4 => ?_
      have hv4 : v4 = V.int a := hv4
      subst hv4
      refine sb_asg (t := tInt) eb_takeC fun v7 fi hf hv7 => ?_
      have hv7 : v7 = V.int fi := hv7
      subst hv7
      refine st_newL fun pn => ?_
      refine st_forR (j := 5) (n := many) (fun i (γ : Option V × Option V × List Str) => γ.2.2 = (List.range i).map fun k => SX.S (nmL l a.toNat fi.toNat k)) (fun _ => Asr.tt) (fun γ => [(pn, .lst (γ.2.2.map V.str))]) (fun γ => [some (.ref b), some (.int many), some (.str "abcdefghijklmnopqrstuvwxyz"), some v3, some (.int a), γ.1, some (.str (SX.S l)), some (.int fi), some (.ref pn), γ.2.1])
        (ea_cons ev_var ea_nil) (by omega) (none, none, []) rfl (fun _ _ => trivial) ?_ ?_
      · rintro k ⟨o5, o9, ys⟩ hk hys
        dsimp only at hys ⊢
        have hk3 : k < 3 := by omega
        have hix : ((fi + 7 * (k : Int)) % 26).toNat = (fi.toNat + 7 * k) % 26 := by omega
        have hlt : (fi.toNat + 7 * k) % 26 < 26 := Nat.mod_lt _ (by omega)
        refine st_asgA (f := V.str) (x := SX.S [97 + (fi.toNat + 7 * k) % 26]) (ev_ixS (i := (fi.toNat + 7 * k) % 26) ev_var (ev_mod (ev_add ev_var (ev_mul ev_int (ev_varE (f := V.int) (x := (k : Int))) (.inl ⟨by omega, by omega⟩))) ev_int (by omega)) (by omega) (by decide) (letters_at _ hlt)) ?_
        have hyl : ys.length ≤ 3 := by rw [hys, List.length_map, List.length_range]; omega
        refine st_appA (f := V.str) (ys := ys) (x := SX.S (nmL l a.toNat fi.toNat k)) (j := 0) rfl (Nat.lt_of_le_of_lt hyl (by decide)) (ev_is (ev_catS (ev_catS (ev_catS (ev_slSto ev_var ev_var ha.1 (by omega)) ev_var ?_) (ev_slSfrom ev_var ev_var ha.1 (by omega)) ?_) (ev_slSto (l := [122, 57]) ev_str (ev_mod (ev_varE (f := V.int) (x := (k : Int))) ev_int (by omega)) (by omega) (by decide)) ?_) ?_) ?_
        · rw [SX.S_len, SX.S_len, List.length_take]
          simp only [List.length_cons, List.length_nil]
          omega
        · rw [SX.S_cat, SX.S_len, SX.S_len, List.length_append, List.length_take, List.length_drop]
          simp only [List.length_cons, List.length_nil]
          omega
        · rw [SX.S_cat, SX.S_cat, SX.S_len, SX.S_len, List.length_append, List.length_append, List.length_take, List.length_drop, List.length_take]
          simp only [List.length_cons, List.length_nil]
          omega
        · rw [SX.S_cat, SX.S_cat, SX.S_cat]
          unfold nmL
          rw [show ((k : Int) % 3).toNat = k % 3 by omega]
        · refine st_turn rfl (some (.int (k : Int)), some (.str (SX.S [97 + (fi.toNat + 7 * k) % 26])), ys ++ [SX.S (nmL l a.toNat fi.toNat k)]) ?_ (fun _ _ => trivial)
          show _ = _
          rw [List.range_succ, List.map_append, hys]
          rfl
      · rintro ⟨o5, o9, ys⟩ hys
        dsimp only at hys ⊢
        have hm3 : many.toNat ≤ 3 := by omega
        refine st_pub (pub_lA (f := V.str) (xs := ys) (by rw [hys, List.length_map, List.length_range]; omega)) (st_retF ret ev_var ?_)
        rw [hys]
        refine ⟨by rw [List.length_map, List.length_range]; show ((many.toNat : Nat) : Int) = many; omega, nmL_nd _ hm3, fun y hy => ?_⟩
        obtain ⟨k, hk, e⟩ := List.mem_map.mp hy
        rw [← e]
        rw [List.mem_range] at hk
        exact nmL_ok hl hc (by omega)
end
end G3
set_option maxRecDepth 100000
set_option maxHeartbeats 4000000
/-! LC: lists, worlds. -/
namespace G3
open PySem PySem.Spec PyProof.Rows L2
structure ListOk (names : List Str) (gs : List (List Str)) : Prop where
  nd : gs.flatten.Nodup
  sub : ∀ n ∈ gs.flatten, n ∈ names
  ne : ∀ g ∈ gs, g ≠ []
section
variable (K : PySem.W.Frag)
def tWorld : Ty Wo where
  r := fun G v W => ∃ a vr vs, v = .ref a ∧ SqL K G a [.str "held", vr, vs] ∧ (tLst K (tPair K tStr (tGrps K))).r G vr W.rows ∧ (tLst K (tPair K tStr tInt)).r G vs W.spots
  ok := fun v _ => ∃ a, v = .ref a
  of := fun ⟨a, _, _, e, _⟩ => ⟨a, e⟩
  mono := fun x ⟨a, vr, vs, e, h, g1, g2⟩ => ⟨a, vr, vs, e, x.sqL h, (tLst K (tPair K tStr (tGrps K))).mono x g1, (tLst K (tPair K tStr tInt)).mono x g2⟩
end
structure WOk (most : Int) (W : Wo) : Prop where
  pre : PreW W
  lr : (W.rows.length : Int) ≤ most
  ls : (W.spots.length : Int) ≤ most
section
variable (P : Program) (w : World) (K : PySem.W.Frag) (mg : Str → Option Value) (base : Heap) (C : Addr)
abbrev P_law_list : Prop := C8.Cal P w K mg base 2 "_law_list" (SpX (aCons (tLst K tStr) (aCons tInt (aCons tBool aNil))) (fun i => i.1.Nodup ∧ i.1.length ≤ 3 ∧ 1 ≤ i.2.1 ∧ i.2.1 ≤ 10) (tGrps K) fun i gs => ListOk i.1 gs) []
abbrev P_law_world : Prop := C8.Cal P w K mg base 3 "_law_world" (SpX (aCons tBool (aCons tInt (aCons tInt aNil))) (fun i => (0 ≤ i.2.1 ∧ i.2.1 ≤ 3) ∧ 1 ≤ i.2.2.1 ∧ i.2.2.1 ≤ 3) (tWorld K) fun i W => WOk i.2.1 W) []
abbrev P_law_lists : Prop := C8.Cal P w K mg base 10 "_law_lists" (SpF (aCons (tWorld K) aNil) (fun i => PreW i.1) (tHeld K C) fun i => i.1) []
end
theorem Fa.set {α β : Type} {R : α → β → Prop} : ∀ {as : List α} {bs : List β} (n : Nat) {a : α} {b : β}, Fa R as bs → R a b → Fa R (as.set n a) (bs.set n b)
  | _, _, _, _, _, .nil, _ => .nil
  | _, _, 0, _, _, .cons _ t, r => .cons r t
  | _, _, n + 1, _, _, .cons h t, r => .cons h (Fa.set n t r)
theorem erase_perm {α : Type} {xs : List α} {n : Nat} {y : α} (h : xs[n]? = some y) : (y :: xs.eraseIdx n).Perm xs := by
  obtain ⟨hn, e⟩ := List.getElem?_eq_some_iff.mp h
  rw [List.eraseIdx_eq_take_drop_succ]
  have e2 : xs = xs.take n ++ y :: xs.drop (n + 1) := by
    have q := List.take_append_drop n xs
    rw [List.drop_eq_getElem_cons hn, e] at q
    exact q.symm
  conv => rhs; rw [e2]
  exact List.perm_middle.symm
section
variable {B : Bs} {M : Asr} {O : List (Addr × HO)} {σ : L2.St} {K : PySem.W.Frag} {α β : Type} {t : Ty α} {te ta tb ti : TE} {i j : Nat} {p : Addr} {x : α} {W : Wo}
/-- the last of an owned list -/
theorem ev_olast {vs : List V} {zs : List α} (hO : O[j]? = some (p, .lst vs)) (hi : ∀ H Q, Q (V.int (-1)) H → ti σ H Q) [hm : HasL M vs t zs] (hx : zs[zs.length - 1]? = some x) (hs : σ[i]? = some (some (.ref p)) := by rfl) : Ev M O σ t (tOp (rIxL K) (tVar i) ti) x := fun G H m l Q q =>
  ⟨_, hs, hi _ _ (by
    have fa := hm.get m
    obtain ⟨w, hw, rw'⟩ := fa.get' hx
    have hl := fa.length
    have hlt := (List.getElem?_eq_some_iff.mp hw).1
    refine ⟨p, vs, -1, w, rfl, rfl, .of (l.at_ hO), ?_, q w G H (.refl l.le) rw'⟩
    unfold atI
    have e : ixN vs.length (-1) = some (vs.length - 1) := by
      unfold ixN
      rw [if_neg (by omega), if_pos (by omega)]
      congr 1
      omega
    rw [e, hl]
    exact hw)⟩
theorem ev_catT {xs ys : List α} (ha : Ev M O σ (tTup K t) ta xs) (hb : Ev M O σ (tTup K t) tb ys) (hx : xs ≠ []) (hy : ys ≠ []) (hz : xs.length + ys.length ≤ 1000) : Ev M O σ (tTup K t) (tOp (rCatT K) ta tb) (xs ++ ys) :=
  ev_op2 ha hb fun G H v v' Q l ⟨a, vs, e, h, g, z⟩ ⟨a', vs', e', h', g', z'⟩ q => by
    subst e e'
    have l1 := g.length
    have l2 := g'.length
    have n1 : vs ≠ [] := fun z => by
      rw [z] at l1
      exact hx (List.eq_nil_of_length_eq_zero l1.symm)
    have n2 : vs' ≠ [] := fun z => by
      rw [z] at l2
      exact hy (List.eq_nil_of_length_eq_zero l2.symm)
    refine ⟨a, a', vs, vs', rfl, rfl, l.sqT h, l.sqT h', n1, by rw [l1, l2]; exact sz _ hz, fun z => absurd z n2, fun _ p hp => ?_⟩
    have x2 := Ext.new (o := .tup (vs ++ vs')) l hp
    exact q _ _ _ x2 ⟨p, vs ++ vs', rfl, .of upd_same, (g.append g').imp fun _ _ => t.mono (x2.le l), by rw [List.length_append, l1, l2]; exact sz _ hz⟩
/-! worlds -/
theorem ev_w1 (ha : Ev M O σ (tWorld K) ta W) : Ev M O σ (tLst K (tPair K tStr (tGrps K))) (tOp (rIxL K) ta (tC (.int 1))) W.rows := ev_op2 ha ev_int fun G H v v' Q l ⟨a, vr, vs, e, h, g1, g2⟩ h2 q => by
  subst e
  exact ⟨a, [.str "held", vr, vs], 1, vr, rfl, h2, l.sqL h, rfl, q _ _ _ (.refl l) g1⟩
theorem ev_w2 (ha : Ev M O σ (tWorld K) ta W) : Ev M O σ (tLst K (tPair K tStr tInt)) (tOp (rIxL K) ta (tC (.int 2))) W.spots := ev_op2 ha ev_int fun G H v v' Q l ⟨a, vr, vs, e, h, g1, g2⟩ h2 q => by
  subst e
  exact ⟨a, [.str "held", vr, vs], 2, vs, rfl, h2, l.sqL h, rfl, q _ _ _ (.refl l) g2⟩
theorem eb_world {R : List (Str × Int) → Prop} {rows : List (Str × List (List Str))} (ha : Ev M O σ (tLst K (tPair K tStr (tGrps K))) ta rows) (hb : EvB B M O σ (tLst K (tPair K tStr tInt)) tb R) : EvB B M O σ (tWorld K) (L2.tLst (tCons (tC (.str "held")) (tCons ta (tCons tb tNil)))) (fun W => W.rows = rows ∧ R W.spots) := fun G H m e w Q q =>
  ha G H m (w.wl e) _ fun v1 G1 H1 e1 r1 => hb G1 H1 (M.mono (e1.le (B.le e)) m) (B.ext e e1) (w.ext e1) _ fun v2 sp G2 H2 l2 e2 o2 hR r2 => ⟨sz 3, fun p hp => by
    have x3 := Ext.new (o := .lst [.str "held", v1, v2]) (B.le e2) hp
    have l3 := x3.le (B.le e2)
    exact q _ ⟨rows, sp⟩ _ _ (((e1.le (B.le e)).trans l2).trans l3) (B.ext e2 x3) (o2.ext x3) ⟨rfl, hR⟩ ⟨p, v1, v2, rfl, .of upd_same, (tLst K (tPair K tStr (tGrps K))).mono (l2.trans l3) r1, (tLst K (tPair K tStr tInt)).mono l3 r2⟩⟩
end
theorem fa_keys {α : Type} {Q : Str → α → Prop} : ∀ {xs : List Str} {ys : List (Str × α)}, Fa (fun n p => p.1 = n ∧ Q n p.2) xs ys → keys ys = xs ∧ ∀ y ∈ ys, Q y.1 y.2
  | _, _, .nil => ⟨rfl, fun y h => absurd h (by simp)⟩
  | _, _, .cons h r => by
    obtain ⟨h1, h2⟩ := h
    obtain ⟨i1, i2⟩ := fa_keys r
    refine ⟨by unfold keys at i1 ⊢; rw [List.map_cons, i1, h1], fun y hy => ?_⟩
    rcases List.mem_cons.mp hy with z | z
    · rw [z, h1]
      exact h2
    · exact i2 y z
section
variable {P : Program} {w : World} {K : PySem.W.Frag} {mg : Str → Option Value} {base : Heap} {C : Addr}
abbrev s_law_list : Stmt := top 62
abbrev N_law_list : List Str := ["_law_box_here", "_law_names_here", "_law_near", "_law_ties", "_law_left", "_law_groups", "_law_k", "_law_name"]
theorem sc_law_list : FnScope N_law_list ["_law_box_here", "_law_names_here", "_law_near", "_law_ties"] (C8.fnScope s_law_list) := ⟨rfl, rfl, rfl, by decide +kernel, rfl, by decide +kernel, by decide +kernel⟩
theorem ok_law_list (T : Bi mg) (Dd : Dn K mg "_law_list" s_law_list ["_law_box_here", "_law_names_here", "_law_near", "_law_ties"]) (c__law_take : P_law_take P w K mg base) : P_law_list P w K mg base := by
  refine calX3 Dd sc_law_list fun f cdv A outer s H E hr => ?_
  have hu := hu_of hr
  refine ⟨_, (pss_cons (ps_set (i := 4) sc_law_list.nd rfl (Or.inl rfl) (pe_callTy (k_list K) (by rfl) T.list (by decide +kernel) (pa_cons (pv 1) pa_nil))) (
    pss_cons (ps_set (i := 5) sc_law_list.nd rfl (Or.inl rfl) (pe_lst pa_nil)) (
    pss_cons (ps_for PassesOwn.never rfl (pi_range1 (by rfl) T.range (pa_cons (pe_ix (ixL K) (pe_lst (pa_cons (pe_callB (k_len K) (by rfl) T.len (by decide +kernel) (pa_cons (pv 1) pa_nil)) (pa_cons (pe_callB (k_len K) (by rfl) T.len (by decide +kernel) (pa_cons (pv 1) pa_nil)) (pa_cons (C8.pe_c c__law_take hr (by decide) (by rfl) (pa_cons (pv 0) (pa_cons (pe_op op_add (pe_callB (k_len K) (by rfl) T.len (by decide +kernel) (pa_cons (pv 1) pa_nil)) pe_int) pa_nil))) pa_nil)))) (C8.pe_c c__law_take hr (by decide) (by rfl) (pa_cons (pv 0) (pa_cons pe_int pa_nil))) (fun _ _ => rfl)) pa_nil)) (pg_name (i := 6) sc_law_list.nd rfl (Or.inl rfl))
    (pss_cons (ps_set (i := 7) sc_law_list.nd rfl (Or.inl rfl) (k_bm K rfl PySem.F.plainAttrs_list PySem.F.slot_list_pop PySem.F.type_list_pop mt_popAt (pv 4) (pa_cons (C8.pe_c c__law_take hr (by decide) (by rfl) (pa_cons (pv 0) (pa_cons (pe_callB (c_min2 rfl) (by rfl) T.min (by decide +kernel) (pa_cons (pv 2) (pa_cons (pe_callB (k_len K) (by rfl) T.len (by decide +kernel) (pa_cons (pv 4) pa_nil)) pa_nil))) pa_nil))) pa_nil))) (
      pss_cons (ps_if ((pw_and (pt_cmpR (o_neEK K hr.units0) (pv 5) (pe_lst pa_nil) (nomark _)) (pw_and (pt_val (pv 3)) (pw_and1 (pt_cmpR op_eq (C8.pe_c c__law_take hr (by decide) (by rfl) (pa_cons (pv 0) (pa_cons pe_int pa_nil))) pe_int (nomark _)))))).pt
      (pss_cons (ps_asg (pe_op op_catT (pe_ix (ixL K) (pv 5) (pe_un un_neg pe_int) (fun _ _ => rfl)) (pe_tup (pa_cons (pv 7) pa_nil))) (pg_sub (pv 5) (pe_un un_neg pe_int) set_list)) pss_nil)
      (pss_cons (ps_expr (k_bm K rfl PySem.F.plainAttrs_list PySem.F.slot_list_append PySem.F.type_list_append mt_append (pv 5) (pa_cons (pe_tup (pa_cons (pv 7) pa_nil)) pa_nil))) pss_nil)) pss_nil))) (
    pss_cons (ps_ret (pe_callTy (k_tuple K) (by rfl) T.tuple (by decide +kernel) (pa_cons (pv 5) pa_nil))) pss_nil)))), ?_⟩
  rintro B D b v1 v2 v3 names near ties h1 rfl rfl ⟨hnd, hl3, hn1, hn2⟩ ret
  dsimp only at hnd hl3 hn1 hn2
  have ret : RetOk (Bx B b) (tGrps K) (fun gs => ListOk names gs) D := ret
  refine st_copyLA ev_var fun pl _ => ?_
  refine st_newL fun pg => ?_
  refine sb_forR (j := 6) (Rn := fun n => 0 ≤ n ∧ n ≤ (names.length : Int)) (fun n i (γ : Option V × Option V × List Str × List V × List (List Str)) => (γ.2.2.2.2.flatten ++ γ.2.2.1).Perm names ∧ γ.2.2.1.length + i = names.length ∧ (γ.2.2.2.1.length ≤ i ∧ γ.2.2.2.1.length = γ.2.2.2.2.length) ∧ ∀ g ∈ γ.2.2.2.2, g ≠ []) (fun γ => itsA (tTup K tStr) γ.2.2.2.1 γ.2.2.2.2)
    (fun γ => [(pg, .lst γ.2.2.2.1), (pl, .lst (γ.2.2.1.map V.str))]) (fun γ => [some (.ref b), some v1, some (.int near), some (.bl ties), some (.ref pl), some (.ref pg), γ.1, γ.2.1])
    (ab_1 (eb_ix (K := K) (Rl := fun l => l.length = 3 ∧ ∀ x ∈ l, 0 ≤ x ∧ x ≤ (names.length : Int)) (Rn := fun r => 0 ≤ r ∧ r < 3) (eb_lst (xb_cons (eb_imp (eb_E (ev_lenL ev_var)) fun x hx => by omega) (xb_cons (eb_imp (eb_E (ev_lenL ev_var)) fun x hx => by omega) (xb_cons (eb_imp (eb_take (Rm := fun m => m = (names.length : Int) + 1) (eb_E (ev_add (ev_lenL ev_var) ev_int)) (fun m hm => by omega)) fun r ⟨m, hm, h0, h1⟩ => by omega) xb_nil)))) (eb_takeC (m := 3))
      (fun xs n h1 h2 => ⟨n.toNat, by omega, by omega⟩) (fun xs n x h1 h2 hx => h1.2 x (List.mem_of_getElem? hx)))) (fun n hn => by omega) (none, none, names, [], []) (fun n hn => ⟨by simp, rfl, ⟨Nat.zero_le _, rfl⟩, fun g hg => absurd hg (by simp)⟩) (fun _ _ => .nil) ?_ ?_
  · rintro n i ⟨o6, o7, left, vs, gs⟩ hn hi ⟨hp, hlen, ⟨hvl, hvg⟩, hne⟩
    dsimp only at hp hlen hvl hvg hne ⊢
    have hpos : 0 < left.length := by omega
    refine sb_popA (f := V.str) (xs := left) (R := fun r => 0 ≤ r ∧ r < (left.length : Int)) (j := 1) rfl (eb_imp (eb_take (Rm := fun m => 0 < m ∧ m ≤ (left.length : Int) ∧ m ≤ 10) (eb_imp (eb_E (ev_min2 ev_var (ev_is (ev_olen (j := 1) rfl) (by rw [List.length_map])))) fun m hm => ?_) (fun m hm => by omega)) fun r ⟨m, hm, h0, h1⟩ => by omega) (fun n hn => hn) (by omega) fun k y hy => ?_
    · split at hm <;> omega
    have hpm : (gs.flatten ++ [y] ++ left.eraseIdx k).Perm names := by
      rw [List.append_assoc]
      exact ((erase_perm hy).append_left gs.flatten).trans hp
    have hlen2 : (left.eraseIdx k).length + (i + 1) = names.length := by
      have := (erase_perm hy).length_eq
      rw [List.length_cons] at this
      omega
    refine sb_if (tb_and (R1 := fun c => c = !vs.isEmpty) (tb_T (et_test (ev_oneE (j := 0) rfl))) (tb_and (R1 := fun _ => True) (R2 := fun _ => True) (fun G H m e w Q q => tb_T (et_B (b := ties) ev_var) G H m e w Q fun c G' H' l e2 o2 _ => q c G' H' l e2 o2 trivial) (tb_test (eb_eqI eb_takeC (eb_E ev_int) fun _ _ _ _ => trivial)))) (fun hb => ?_) (fun hb => ?_)
    · have hb := (hb rfl).1
      have hvne : vs ≠ [] := fun z => by rw [z] at hb; cases hb
      have hvp := List.length_pos_iff.mpr hvne
      have hgne : gs ≠ [] := fun z => by rw [z] at hvg; exact hvne (List.eq_nil_of_length_eq_zero hvg)
      obtain ⟨gi, gl, hgs⟩ : ∃ gi gl, gs = gi ++ [gl] := ⟨gs.dropLast, gs.getLast hgne, (List.dropLast_concat_getLast hgne).symm⟩
      subst hgs
      have hgl : (gi ++ [gl]).length = gi.length + 1 := by simp
      have hfl : gl.length ≤ 3 := by
        have := hp.length_eq
        rw [List.length_append, List.flatten_append, List.length_append] at this
        simp only [List.flatten_cons, List.flatten_nil, List.append_nil] at this
        omega
      have hix : vs.length - 1 = gi.length := by omega
      refine st_lset (t := tTup K tStr) (x := gl ++ [y]) (j := 0) (n := vs.length - 1) (z := -1) rfl (ev_catT (ev_olast (zs := gi ++ [gl]) (j := 0) rfl neg1 (by rw [hgl]; simp)) (ev_tupD (exs_cons ev_var exs_nil) (by simp)) (hne gl (by simp)) (by simp) (by simp; omega)) neg1 ?_ fun v hv => ?_
      · unfold ixN
        rw [if_neg (by omega), if_pos (by omega)]
        congr 1
        omega
      · refine st_thru (st_turn rfl (some (.int (i : Int)), some (.str y), left.eraseIdx k, vs.set (vs.length - 1) v, gi ++ [gl ++ [y]]) ⟨?_, hlen2, ⟨?_, ?_⟩, fun g hg => ?_⟩ (fun G m => ?_))
        · show ((gi ++ [gl ++ [y]]).flatten ++ left.eraseIdx k).Perm names
          have e9 : (gi ++ [gl ++ [y]]).flatten = (gi ++ [gl]).flatten ++ [y] := by simp
          rw [e9]
          exact hpm
        · rw [List.length_set]
          exact Nat.le_succ_of_le hvl
        · rw [List.length_set, hvg]
          simp
        · rcases List.mem_append.mp hg with h | h
          · exact hne g (by simp [h])
          · rw [List.mem_singleton.mp h]
            simp
        · have := Fa.set (vs.length - 1) m.1.2 m.2
          rw [hix, List.set_append_right _ _ (Nat.le_refl _), Nat.sub_self] at this
          rw [hix]
          exact this
    · refine st_app (t := tTup K tStr) (x := [y]) (j := 0) rfl (Nat.lt_of_le_of_lt (show vs.length ≤ 3 by omega) (by decide)) (ev_tupD (exs_cons ev_var exs_nil) (by simp)) fun v hv => ?_
      refine st_thru (st_turn rfl (some (.int (i : Int)), some (.str y), left.eraseIdx k, vs ++ [v], gs ++ [[y]]) ⟨?_, hlen2, ⟨?_, ?_⟩, fun g hg => ?_⟩ (fun G m => ?_))
      · show ((gs ++ [[y]]).flatten ++ left.eraseIdx k).Perm names
        rw [List.flatten_append]
        simpa using hpm
      · rw [List.length_append]
        exact Nat.succ_le_succ hvl
      · rw [List.length_append, List.length_append, hvg]
        rfl
      · rcases List.mem_append.mp hg with h | h
        · exact hne g h
        · rw [List.mem_singleton.mp h]
          simp
      · exact m.1.2.append (.cons m.2 .nil)
  · rintro n ⟨o6, o7, left, vs, gs⟩ hn ⟨hp, hlen, ⟨hvl, hvg⟩, hne⟩
    dsimp only at hp hlen hvl hvg hne ⊢
    refine st_pub (x := gs) (t := tLst K (tTup K tStr)) (pub_lK (by omega)) (st_retF ret (ev_tupleL ev_var) ⟨?_, fun n hn => ?_, hne⟩)
    · exact (List.nodup_append.mp (hp.nodup_iff.mpr hnd)).1
    · exact hp.mem_iff.mp (List.mem_append_left _ hn)
abbrev s_law_world : Stmt := top 63
abbrev N_law_world : List Str := ["_law_box_here", "_law_ties", "_law_most", "_law_holders_here", "_law_people", "_law_places", "_law_near", "_law_rows", "_law_name"]
theorem sc_law_world : FnScope N_law_world ["_law_box_here", "_law_ties", "_law_most", "_law_holders_here"] (C8.fnScope s_law_world) := ⟨rfl, rfl, rfl, by decide +kernel, rfl, by decide +kernel, by decide +kernel⟩
theorem ok_law_world (T : Bi mg) (Dd : Dn K mg "_law_world" s_law_world ["_law_box_here", "_law_ties", "_law_most", "_law_holders_here"]) (c__law_take : P_law_take P w K mg base) (c__law_names : P_law_names P w K mg base) (c__law_list : P_law_list P w K mg base) : P_law_world P w K mg base := by
  refine calX3 Dd sc_law_world fun f cdv A outer s H E hr => ?_
  have hu := hu_of hr
  refine ⟨_, (pss_cons (ps_set (i := 4) sc_law_world.nd rfl (Or.inl rfl) (C8.pe_c c__law_names hr (by decide) (by rfl) (pa_cons (pv 0) (pa_cons (pe_callB (c_max2 rfl) (by rfl) T.max (by decide +kernel) (pa_cons (C8.pe_c c__law_take hr (by decide) (by rfl) (pa_cons (pv 0) (pa_cons (pe_op op_add (pv 2) pe_int) pa_nil))) (pa_cons (C8.pe_c c__law_take hr (by decide) (by rfl) (pa_cons (pv 0) (pa_cons (pe_op op_add (pv 2) pe_int) pa_nil))) pa_nil))) pa_nil)))) (
    pss_cons (ps_set (i := 5) sc_law_world.nd rfl (Or.inr rfl) (C8.pe_c c__law_names hr (by decide) (by rfl) (pa_cons (pv 0) (pa_cons (pe_callB (c_max2 rfl) (by rfl) T.max (by decide +kernel) (pa_cons (C8.pe_c c__law_take hr (by decide) (by rfl) (pa_cons (pv 0) (pa_cons (pe_op op_add (pv 2) pe_int) pa_nil))) (pa_cons (C8.pe_c c__law_take hr (by decide) (by rfl) (pa_cons (pv 0) (pa_cons (pe_op op_add (pv 2) pe_int) pa_nil))) pa_nil))) pa_nil)))) (
    pss_cons (ps_set (i := 6) sc_law_world.nd rfl (Or.inr rfl) (pe_ix (ixL K) (pe_lst (pa_cons pe_int (pa_cons pe_int (pa_cons pe_int (pa_cons pe_int (pa_cons pe_int pa_nil)))))) (C8.pe_c c__law_take hr (by decide) (by rfl) (pa_cons (pv 0) (pa_cons pe_int pa_nil))) (fun _ _ => rfl))) (
    pss_cons (ps_setLc (i := 7) (own := [("_law_name", 8)]) (g := gName 8) (tt := tYes) (by rfl) sc_law_world.nd rfl rfl (sw_true rfl rfl rfl (by decide +kernel)) (pi_list (pv 4)) (blkOk_by (own := [("_law_name", 8)]) (N := N_law_world) (sc := C8.fnScope s_law_world) (by decide +kernel)) (fun _ _ _ _ _ => (pg_name (i := 8) sc_law_world.nd rfl (Or.inl rfl))) (fun _ _ _ _ _ => pts_nil) (fun _ _ _ _ _ => (pe_tup (pa_cons (pv 8) (pa_cons (C8.pe_c c__law_list hr (by decide) (by rfl) (pa_cons (pv 0) (pa_cons (pv 5) (pa_cons (pv 6) (pa_cons (pv 1) pa_nil))))) pa_nil))))) (
    pss_cons (ps_ret (pe_lst (pa_cons pe_str (pa_cons (pv 7) (pa_cons (pe_lc (own := [("_law_name", 8)]) (g := gName 8) (tt := tYes) (by rfl) sc_law_world.nd (pi_list (pv 5)) (blkOk_by (own := [("_law_name", 8)]) (N := N_law_world) (sc := C8.fnScope s_law_world) (by decide +kernel)) (fun _ _ _ _ _ => (pg_name (i := 8) sc_law_world.nd rfl (Or.inl rfl))) (fun _ _ _ _ _ => pts_nil) (fun _ _ _ _ _ => (pe_tup (pa_cons (pv 8) (pa_cons (pe_op op_add pe_int (C8.pe_c c__law_take hr (by decide) (by rfl) (pa_cons (pv 0) (pa_cons (pv 3) pa_nil)))) pa_nil))))) pa_nil))))) pss_nil))))), ?_⟩
  rintro B D b v1 v2 v3 ties most holders rfl rfl rfl ⟨hm, hh⟩ ret
  dsimp only at hm hh
  have ret : RetOk (Bx B b) (tWorld K) (fun W => WOk most W) D := ret
  have two : ∀ {M : Asr} {σ : L2.St}, Has M (V.int most) tInt most → σ[0]? = some (some (.ref b)) → σ[2]? = some (some (.int most)) → EvB (Bx B b) M [] σ (tLst K tStr) (tCall (SpX (aCons tInt aNil) (fun i => 0 ≤ i.1 ∧ i.1 ≤ 3) (tLst K tStr) fun i ys => NamesOk i.1 ys) [] C8.E0 (tCons (tVar 0) (tCons (tCB rMax2 (tCons (tCall (SpX (aCons tInt aNil) (fun i => 0 < i.1 ∧ i.1 ≤ 1000) tInt fun i r => 0 ≤ r ∧ r < i.1) [] C8.E0 (tCons (tVar 0) (tCons (tOp (rI0 fun i j => .int (i + j)) (tVar 2) (tC (.int 1))) tNil))) (tCons (tCall (SpX (aCons tInt aNil) (fun i => 0 < i.1 ∧ i.1 ≤ 1000) tInt fun i r => 0 ≤ r ∧ r < i.1) [] C8.E0 (tCons (tVar 0) (tCons (tOp (rI0 fun i j => .int (i + j)) (tVar 2) (tC (.int 1))) tNil))) tNil))) tNil))) (fun ys => ∃ m, m ≤ most ∧ NamesOk m ys) := fun {M σ} hM s0 s2 => by
    have tk : EvB (Bx B b) M [] σ tInt (tCall (SpX (aCons tInt aNil) (fun i => 0 < i.1 ∧ i.1 ≤ 1000) tInt fun i r => 0 ≤ r ∧ r < i.1) [] C8.E0 (tCons (tVar 0) (tCons (tOp (rI0 fun i j => .int (i + j)) (tVar 2) (tC (.int 1))) tNil))) (fun r => 0 ≤ r ∧ r ≤ most) :=
      eb_imp (eb_take (Rm := fun m => m = most + 1) (eb_E (ev_add (ev_varE s2) ev_int)) (fun m hm => by omega) s0) fun r ⟨m, hm, h0, h1⟩ => by omega
    exact eb_imp (eb_callX (S := fun i => (0 ≤ i.1 ∧ i.1 ≤ most) ∧ True) (ab_cons (eb_max tk tk fun x y hx hy => by split <;> omega) ab_nil) (fun i hi => by have := hi.1; omega) s0) fun ys ⟨i, hi, hP⟩ => ⟨i.1, hi.1.2, hP⟩
  refine sb_asg (two inferInstance rfl rfl) fun v4 people ⟨m4, hm4, hp4⟩ _ => ?_
  refine sb_asg (two inferInstance rfl rfl) fun v5 places ⟨m5, hm5, hp5⟩ _ => ?_
  have hlp := hp4.len
  have hlq := hp5.len
  refine sb_asg (t := tInt) (eb_ix (K := K) (Rl := fun l => l.length = 5 ∧ ∀ x ∈ l, 1 ≤ x ∧ x ≤ 10) (Rn := fun r => 0 ≤ r ∧ r < 5) (eb_lst (xb_cons (eb_imp (eb_E ev_int) fun x hx => by omega) (xb_cons (eb_imp (eb_E ev_int) fun x hx => by omega) (xb_cons (eb_imp (eb_E ev_int) fun x hx => by omega) (xb_cons (eb_imp (eb_E ev_int) fun x hx => by omega) (xb_cons (eb_imp (eb_E ev_int) fun x hx => by omega) xb_nil)))))) (eb_takeC (m := 5)) (fun xs n h1 h2 => ⟨n.toNat, by omega, by omega⟩) (fun xs n x h1 h2 hx => h1.2 x (List.mem_of_getElem? hx))) fun v6 near hnear hv6 => ?_
  have hv6 : v6 = V.int near := hv6
  subst hv6
  refine sb_asg (t := tLst K (tPair K tStr (tGrps K))) (eb_lcL (u := tPair K tStr (tGrps K)) (tgN tStr 8) (fun n p => p.1 = n ∧ ListOk places p.2) ev_var fun L po n ω hn ho => ?_) fun v7 rows hrows _ => ?_
  · have ho : ω = V.str n := ho
    subst ho
    exact eb_imp (eb_pair (eb_E ev_var) (eb_callX (S := fun i => i.1 = places ∧ i.2.1 = near ∧ i.2.2.1 = ties ∧ True) (ab_cons (R := fun x => x = places) (eb_E ev_var) (ab_cons (R := fun x => x = near) (eb_E ev_var) (ab_cons (R := fun x => x = ties) (eb_E ev_var) ab_nil))) (fun i hi => ⟨hi.1 ▸ hp5.nd, hi.1 ▸ (by omega), hi.2.1 ▸ hnear⟩))) fun p ⟨h1, i, hi, hP⟩ => ⟨h1, hi.1 ▸ hP⟩
  obtain ⟨kr, okr⟩ := fa_keys hrows
  refine sb_ret ret (eb_world ev_var (eb_lcL (u := tPair K tStr tInt) (tgN tStr 8) (fun n p => p.1 = n ∧ 1 ≤ p.2 ∧ p.2 ≤ 3) ev_var fun L po n ω hn ho => ?_)) ?_
  · have ho : ω = V.str n := ho
    subst ho
    exact eb_imp (eb_pair (Ra := fun x => x = n) (Rb := fun x => 1 ≤ x ∧ x ≤ 3) (eb_E ev_var) (eb_add (Ra := fun x => x = 1) (eb_E ev_int) (eb_take (Rm := fun m => m = holders) (eb_E ev_var) (fun m hm => by omega)) fun x y hx ⟨m, hm, h0, h1⟩ => by
      have hm : m = holders := hm
      have hx : x = 1 := hx
      omega)) fun p h => h
  · rintro ⟨rows', spots⟩ ⟨hr1, hsp⟩
    have hr1 : rows' = rows := hr1
    subst hr1
    obtain ⟨ks, oks⟩ := fa_keys (Q := fun _ x => 1 ≤ x ∧ x ≤ 3) (xs := places) (ys := spots) hsp
    have lr : rows'.length = people.length := by rw [← kr, keys_len]
    have ls : spots.length = places.length := by rw [← ks, keys_len]
    refine ⟨⟨⟨by show (keys rows').Nodup; rw [kr]; exact hp4.nd, by show rows'.length ≤ 10; omega, fun r hr => ⟨?_, ?_⟩⟩, ⟨by show (keys spots).Nodup; rw [ks]; exact hp5.nd, by show spots.length ≤ 10; omega, fun r hr => ⟨?_, ?_⟩⟩, fun r hr n hn => ?_⟩, ?_, ?_⟩
    · exact hp4.ok _ (by rw [← kr]; exact mem_keys hr)
    · have := okr r hr
      refine ⟨fun g hg => ⟨this.ne g hg, fun n hn => hp5.ok n (this.sub n (List.mem_flatten.mpr ⟨g, hg, hn⟩))⟩, this.nd, ?_⟩
      have := nd_len this.nd this.sub
      omega
    · exact hp5.ok _ (by rw [← ks]; exact mem_keys hr)
    · have := oks r hr
      omega
    · show n ∈ keys spots
      rw [ks]
      exact (okr r hr).sub n hn
    · show (rows'.length : Int) ≤ most
      omega
    · show (spots.length : Int) ≤ most
      omega
abbrev s_law_lists : Stmt := top 64
abbrev N_law_lists : List Str := ["_law_world_here"]
theorem sc_law_lists : FnScope N_law_lists ["_law_world_here"] (C8.fnScope s_law_lists) := ⟨rfl, rfl, rfl, by decide +kernel, rfl, by decide +kernel, by decide +kernel⟩
theorem ok_law_lists (Dd : Dn K mg "_law_lists" s_law_lists ["_law_world_here"]) (mk_Held : P_Held P w K mg base C) : P_law_lists P w K mg base C := by
  refine cal1 Dd sc_law_lists fun f cdv A outer s H E hr => ⟨_, (pss_cons (ps_ret (C8.pe_mk mk_Held hr (by decide) (by rfl) (pa_cons (pe_ix (ixL K) (pv 0) pe_int (fun _ _ => rfl)) (pa_cons (pe_ix (ixL K) (pv 0) pe_int (fun _ _ => rfl)) pa_nil)))) pss_nil), ?_⟩
  rintro B D v1 W h1 pre ret -
  exact st_retF ret (ev_make (ea_cons (ev_w1 ev_var) (ea_cons (ev_w2 ev_var) ea_nil)) pre)
end
end G3
set_option maxRecDepth 100000
set_option maxHeartbeats 4000000
/-! G21: dicts of pairs, dicts within dicts, any two tuples joined. -/
namespace G3
open PySem PySem.Spec PyProof.Rows L2
def rDictP (K : PySem.W.Frag) : List V → Hp → VK → Prop := fun xs H Q => ∃ (a : Addr) (ps : List Addr) (kvs : List (Key × V)), xs = [.ref a] ∧ SqL K H a (ps.map V.ref) ∧ Paired (fun p kv => SqT K H p [kV kv.1, kv.2]) ps kvs ∧
    ∀ p, H p = none → Q (.ref p) (upd H p (.dK (mergeK [] kvs)))
theorem k_dictP {X : Cx} (K : PySem.W.Frag) (hc : X.calm = true) (h : X.K = K := by rfl) : CallR X (.type "dict") (rDictP K) := by subst h; exact call_dictP hc
theorem k_catA {X : Cx} (K : PySem.W.Frag) (h : X.K = K := by rfl) : OpR X (binaryOp .Add) (rCatA K) := by subst h; exact op_catA
theorem merge_nd : ∀ {kvs acc : List (Key × V)}, ((acc ++ kvs).map (·.1)).Nodup → mergeK acc kvs = acc ++ kvs
  | [], acc, _ => by
    rw [List.append_nil]
    rfl
  | kv :: r, acc, h => by
    have hk : ¬ kv.1 ∈ acc.map (·.1) := fun z => by
      rw [List.map_append, List.nodup_append] at h
      exact h.2.2 _ z _ (by simp) rfl
    have e : putK acc kv.1 kv.2 = acc ++ [kv] := by
      unfold putK
      rw [if_neg]
      intro z
      obtain ⟨a, ha, e⟩ := List.any_eq_true.mp z
      exact hk (List.mem_map.mpr ⟨a, ha, of_decide_eq_true e⟩)
    show mergeK (putK acc kv.1 kv.2) r = _
    rw [e, merge_nd (acc := acc ++ [kv]) (by rw [List.append_assoc]; exact h), List.append_assoc]
    rfl
section
variable {B : Bs} {M : Asr} {O : List (Addr × HO)} {σ : L2.St} {K : PySem.W.Frag} {α β γ : Type} {t : Ty α} {u : Ty β} {te ta tb td ty : TE} {tz : TS} {D : Ends} {i j : Nat} {p : Addr} {x : α}
theorem fa_dictP {G H : Hp} (l : Le G H) {vs : List V} {xs : List (Str × α)} (h : Fa ((tPair K tStr t).r G) vs xs) : ∃ (ps : List Addr) (kvs : List (Key × V)), vs = ps.map V.ref ∧ Paired (fun p kv => SqT K H p [kV kv.1, kv.2]) ps kvs ∧ Fa (kvR t G) kvs xs ∧ kvs.map (·.1) = (keys xs).map Sum.inr := by
  induction h with
  | nil => exact ⟨[], [], rfl, .nil, .nil, rfl⟩
  | @cons v x vs xs r _ ih =>
    obtain ⟨ps, kvs, e1, e2, e3, e4⟩ := ih
    obtain ⟨a, v1, v2, ev, hs, g1, g2⟩ := r
    have g1 : v1 = V.str x.1 := g1
    subst g1 ev
    refine ⟨a :: ps, (.inr x.1, v2) :: kvs, by rw [List.map_cons, e1], .cons (l.sqT hs) e2, .cons ⟨rfl, g2⟩ e3, ?_⟩
    rw [List.map_cons, e4]
    rfl
/-- dict(a list of pairs), names apart -/
theorem ev_dictP {xs : List (Str × α)} (ha : Ev M O σ (tLst K (tPair K tStr t)) ta xs) (hn : (keys xs).Nodup) : Ev M O σ (tDct t) (tCB (rDictP K) (tCons ta tNil)) xs := ev_cb1 ha fun G H v Q l ⟨a, vs, e, h, g, z⟩ q => by
  subst e
  obtain ⟨ps, kvs, e1, e2, e3, e4⟩ := fa_dictP (K := K) l g
  have hm : mergeK [] kvs = kvs := merge_nd (acc := []) (by
    rw [List.nil_append, e4]
    exact List.pairwise_map.mpr (hn.imp fun h z => h (by injection z)))
  refine ⟨a, ps, kvs, rfl, e1 ▸ l.sqL h, e2, fun p hp => ?_⟩
  rw [hm]
  have x2 := Ext.new (o := .dK kvs) l hp
  have hl := e3.length
  have hl2 := g.length
  exact q _ _ _ x2 ⟨p, kvs, rfl, .inl upd_same, e3.imp fun _ _ z => ⟨z.1, t.mono (x2.le l) z.2⟩, by omega⟩
/-- d[k], of a dict only known by what holds of it -/
theorem evr_dget {R : List (Str × α) → Prop} {k : Str} (hd : EvR M O σ (tDct t) td R) (hk : Ev M O σ tStr ty k) (hx : ∀ xs, R xs → (dget xs k).isSome = true) : EvR M O σ t (tDGet td ty) (fun x => ∃ xs, R xs ∧ dget xs k = some x) := fun G H m l Q q =>
  hd G H m l _ fun v xs G1 H1 e1 hR r1 => by
    obtain ⟨x, hx⟩ := Option.isSome_iff_exists.mp (hx xs hR)
    refine hk G1 H1 (M.mono (e1.le l.le) m) (l.ext e1) _ fun v2 G2 H2 e2 r2 => ?_
    obtain ⟨a, kvs, e, h, g, z⟩ := (tDct t).mono (e2.le e1.gh) r1
    subst e
    cases r2
    obtain ⟨w, hw, rw'⟩ := (g.kget k).1 x hx
    exact ⟨a, w, rfl, .inl ⟨kvs, .inr k, e2.gh.rd h, rfl, hw.symm⟩, q w x G2 H2 (e1.trans e2) ⟨xs, hR, hx⟩ rw'⟩
/-- any two tuples joined -/
theorem ev_catA {xs ys : List α} (ha : Ev M O σ (tTup K t) ta xs) (hb : Ev M O σ (tTup K t) tb ys) (hz : xs.length + ys.length ≤ 1000) : Ev M O σ (tTup K t) (tOp (rCatA K) ta tb) (xs ++ ys) :=
  ev_op2 ha hb fun G H v v' Q l ⟨a, vs, e, h, g, z⟩ ⟨a', vs', e', h', g', z'⟩ q => by
    subst e e'
    have l1 := g.length
    have l2 := g'.length
    refine ⟨a, a', vs, vs', rfl, rfl, l.sqT h, l.sqT h', by rw [l1, l2]; exact sz _ hz, fun n => ?_, fun n n2 => ?_, fun _ _ p hp => ?_⟩
    · subst n
      have : xs = [] := List.eq_nil_of_length_eq_zero l1.symm
      subst this
      exact q _ _ _ (.refl l) ⟨a', vs', rfl, h', g', z'⟩
    · subst n2
      have : ys = [] := List.eq_nil_of_length_eq_zero l2.symm
      subst this
      exact q _ _ _ (.refl l) ⟨a, vs, rfl, h, by rw [List.append_nil]; exact g, z⟩
    · have x2 := Ext.new (o := .tup (vs ++ vs')) l hp
      exact q _ _ _ x2 ⟨p, vs ++ vs', rfl, .of upd_same, (g.append g').imp fun _ _ => t.mono (x2.le l), by rw [List.length_append, l1, l2]; exact sz _ hz⟩
theorem ev_tup0 : Ev M O σ (tTup K t) (L2.tTup tNil) [] := ev_tupD exs_nil (Nat.zero_le _)
/-- d[k] = {} : the inner dict is owned, too -/
theorem st_putNew {kvs : List (Key × V)} {k : Str} (hO : O[j]? = some (p, .dK kvs)) (hl : kvs.length < sizeLine) (hk : Ev M O σ tStr ty k) (c : ∀ p2, St B M ((p2, .dK []) :: O.set j (p, .dK (putK kvs (.inr k) (.ref p2)))) tz D σ) (hs : σ[i]? = some (some (.ref p)) := by rfl) :
    St B M O (tSeq (sDPut (tVar i) ty tDNewK) tz) D σ := fun G H m e w p2 hp2 => ⟨_, hs, by
  have x1 : Ext G H G (upd H p2 (.dK [])) := .newO (B.le e) hp2
  have eB := B.ext e x1
  have w1 := w.push (o := .dK []) e hp2
  refine hk G _ m ((w.ext x1).wl eB) _ fun v2 G2 H2 e2 r2 => ?_
  cases r2
  have eB2 := B.ext eB e2
  have w2 := w1.ext e2
  have hO2 : ((p2, HO.dK []) :: O)[j + 1]? = some (p, .dK kvs) := hO
  obtain ⟨o1, o2, o3⟩ := w2.at_ hO2
  refine ⟨p, _, rfl, .inl ⟨kvs, .inr k, o3, rfl, hl, rfl⟩, ?_⟩
  exact c p2 G2 _ (M.mono (e2.le (B.le eB)) m) (B.set o1 eB2 o2) (w2.set hO2)⟩
/-- d[k0][k] = e, d and d[k0] owned -/
theorem st_dputIn {kvs : List (Key × V)} {k k0 : Str} {f : α → V} {ms : List (Str × α)} {j2 : Nat} {p2 : Addr} {ty0 : TE} (hO : O[j]? = some (p, .dK kvs)) (hv0 : valV kvs (.inr k0) = some (.ref p2)) (hO2 : O[j2]? = some (p2, .dK (akv f ms))) (hl : ms.length < sizeLine)
    (hv : Ev M O σ (aty f) te x) (hk0 : Ev M O σ tStr ty0 k0) (hk : Ev M O σ tStr ty k) (c : St B M (O.set j2 (p2, .dK (akv f (dput ms k x)))) tz D σ) (hs : σ[i]? = some (some (.ref p)) := by rfl) :
    St B M O (tSeq (sDPut (tDGet (tVar i) ty0) ty te) tz) D σ := fun G H m e w =>
  hv G H m (w.wl e) _ fun v G1 H1 e1 r1 => ⟨_, hs, by
    have r1 : v = f x := r1
    subst r1
    have eB := B.ext e e1
    have w1 := w.ext e1
    refine hk0 G1 H1 (M.mono (e1.le (B.le e)) m) (w1.wl eB) _ fun v0 G2 H2 e2 r2 => ?_
    cases r2
    have eB2 := B.ext eB e2
    have w2 := w1.ext e2
    refine ⟨p, .ref p2, rfl, .inl ⟨kvs, .inr k0, .inl (w2.at_ hO).2.2, rfl, hv0.symm⟩, ?_⟩
    refine hk G2 H2 (M.mono ((e1.trans e2).le (B.le e)) m) (w2.wl eB2) _ fun v3 G3 H3 e3 r3 => ?_
    cases r3
    have eB3 := B.ext eB2 e3
    have w3 := w2.ext e3
    obtain ⟨o1, o2, o3⟩ := w3.at_ hO2
    refine ⟨p2, _, rfl, .inl ⟨_, .inr k, o3, rfl, by rw [akv_len]; exact hl, rfl⟩, ?_⟩
    rw [akv_put]
    exact c G3 _ (M.mono (((e1.trans e2).trans e3).le (B.le e)) m) (B.set o1 eB3 o2) (w3.set hO2)⟩
end
end G3
set_option maxRecDepth 100000
set_option maxHeartbeats 4000000
/-! LD: the law's ranks, dealings, firsts. -/
namespace G3
open PySem PySem.Spec PyProof.Rows L2
theorem PreW.row {W : Wo} (h : PreW W) {p : Str} (hp : p ∈ W.people) : ∃ gs, (p, gs) ∈ W.rows ∧ W.groups p = gs ∧ dget W.rows p = some gs := by
  obtain ⟨r, hr, e⟩ := List.mem_map.mp hp
  have hg := nd_mem h.rows.nd (show (r.1, r.2) ∈ W.rows from hr)
  rw [e] at hg
  exact ⟨r.2, by rw [← e]; exact hr, by unfold Wo.groups; rw [hg]; rfl, hg⟩
theorem PreW.first_sub {W : Wo} (h : PreW W) {p q : Str} (hq : q ∈ W.first p) : q ∈ (W.groups p).flatten := by
  unfold Wo.first at hq
  cases e : W.groups p with
  | nil => rw [e] at hq; exact absurd hq (by simp)
  | cons g r =>
    rw [e] at hq
    rw [List.flatten_cons]
    exact List.mem_append_left _ hq
theorem PreW.flat_sub {W : Wo} (h : PreW W) {p q : Str} (hp : p ∈ W.people) (hq : q ∈ (W.groups p).flatten) : q ∈ W.places := by
  obtain ⟨gs, hg, e, _⟩ := h.row hp
  rw [e] at hq
  exact h.known _ hg q hq
theorem PreW.spot {W : Wo} (h : PreW W) {q : Str} (hq : q ∈ W.places) : dget W.spots q = some (W.hold q) ∧ 1 ≤ W.hold q ∧ W.hold q ≤ 4 := by
  obtain ⟨r, hr, e⟩ := List.mem_map.mp hq
  have hg := nd_mem h.spots.nd (show (r.1, r.2) ∈ W.spots from hr)
  rw [e] at hg
  have eh : W.hold q = r.2 := by unfold Wo.hold; rw [hg]; rfl
  exact ⟨by rw [hg, eh], by rw [eh]; exact ((h.spots.ok r hr).2)⟩
theorem PreW.wok {W : Wo} (h : PreW W) : Wok W := by
  refine ⟨h.rows.nd, ?_, h.spots.nd, ?_, fun p hp q hq => h.flat_sub hp (h.first_sub hq), fun p hp => ?_, fun q hq => (h.spot hq).2.1⟩
  · show (W.rows.map (·.1)).length ≤ 10
    rw [List.length_map]
    exact h.rows.len
  · show (W.spots.map (·.1)).length ≤ 10
    rw [List.length_map]
    exact h.spots.len
  · obtain ⟨gs, hg, e, _⟩ := h.row hp
    have hn := ((h.rows.ok _ hg).2).nd
    unfold Wo.first
    rw [e]
    cases z : gs with
    | nil => exact List.nodup_nil
    | cons g r =>
      dsimp only at hn
      rw [z, List.flatten_cons, List.nodup_append] at hn
      exact hn.1
def chosen (W : Wo) (p : Str) : List Str := W.places.filter fun q => decide (q ∈ (W.groups p).flatten)
theorem chosen_mem {W : Wo} {p q : Str} : q ∈ chosen W p ↔ q ∈ W.places ∧ q ∈ (W.groups p).flatten := by
  unfold chosen
  rw [List.mem_filter, decide_eq_true_iff]
/-- a dealing -/
structure GVal (W : Wo) (d : List (Str × Str)) : Prop where
  nd : (keys d).Nodup
  fs : ∀ x ∈ d, x.1 ∈ W.people ∧ x.2 ∈ chosen W x.1
  cp : ∀ q ∈ W.places, (((d.map (·.2)).countP fun n => decide (n = q) : Nat) : Int) ≤ W.hold q
def cntV (d : List (Str × Str)) (q : Str) : Nat := (d.map (·.2)).countP fun n => decide (n = q)
def isFirsts (W : Wo) (d : List (Str × Str)) : Bool := d.all fun x => decide (x.2 ∈ W.first x.1)
def RRk (rows : List (Str × List (List Str))) (d : List (Str × List (Str × Int))) : Prop := ∀ r ∈ rows, ∃ m, dget d r.1 = some m ∧ ∀ q, q ∈ keys m ↔ q ∈ r.2.flatten
section
variable (P : Program) (w : World) (K : PySem.W.Frag) (mg : Str → Option Value) (base : Heap) (C : Addr)
abbrev P_law_ranks : Prop := C8.Cal P w K mg base 1 "_law_ranks" (SpR (aCons (tLst K (tPair K tStr (tGrps K))) aNil) (fun i => (keys i.1).Nodup ∧ i.1.length ≤ 10 ∧ ∀ r ∈ i.1, r.2.flatten.length ≤ 10) (tDct (tDct tInt)) fun i d => RRk i.1 d) []
abbrev P_law_chosen : Prop := C8.Cal P w K mg base 2 "_law_chosen" (SpF (aCons (tWorld K) (aCons tStr aNil)) (fun i => PreW i.1 ∧ i.2.1 ∈ i.1.people) (tLst K tStr) fun i => chosen i.1 i.2.1) []
abbrev P_law_holders : Prop := C8.Cal P w K mg base 1 "_law_holders" (SpF (aCons (tWorld K) aNil) (fun i => PreW i.1) (tDct tInt) fun i => i.1.spots) []
abbrev P_law_is_dealing : Prop := C8.Cal P w K mg base 3 "_law_is_dealing" (SpF (aCons (tWorld K) (aCons (tDct tStr) aNil)) (fun i => PreW i.1 ∧ GVal i.1 i.2.1) tBool fun _ => true) []
abbrev P_law_has_room : Prop := C8.Cal P w K mg base 2 "_law_has_room" (SpF (aCons (tWorld K) (aCons (tDct tStr) (aCons tStr aNil))) (fun i => PreW i.1 ∧ i.2.2.1 ∈ i.1.places) tBool fun i => decide ((cntV i.2.1 i.2.2.1 : Int) < i.1.hold i.2.2.1)) []
abbrev P_law_firsts : Prop := C8.Cal P w K mg base 1 "_law_firsts" (SpF (aCons (tWorld K) aNil) (fun i => PreW i.1) (tDct (tLst K tStr)) fun i => fw i.1) []
abbrev P_law_is_firsts : Prop := C8.Cal P w K mg base 4 "_law_is_firsts" (SpF (aCons (tWorld K) (aCons (tDct tStr) (aCons tInt aNil))) (fun i => PreW i.1 ∧ GVal i.1 i.2.1) tBool fun i => decide ((i.2.1.length : Int) = i.2.2.1) && isFirsts i.1 i.2.1) []
abbrev P_law_told_of : Prop := C8.Cal P w K mg base 1 "_law_told_of" (SpF (aCons (tLst K tStr) (aCons (tDct tKd) aNil)) (fun i => keys i.2.1 = i.1) tBool fun _ => true) []
end
theorem valV_put (kvs : List (Key × V)) (k : Key) (v : V) : valV (putK kvs k v) k = some v := by
  unfold putK
  split
  · rename_i h
    induction kvs with
    | nil => cases h
    | cons a r ih =>
      rw [List.map_cons]
      by_cases e : a.1 = k
      · rw [if_pos e, valV_pos (p := (a.1, v)) e]
      · rw [if_neg e, valV_neg e]
        refine ih ?_
        rw [List.any_cons, decide_eq_false e, Bool.false_or] at h
        exact h
  · rename_i h
    induction kvs with
    | nil => exact valV_pos rfl
    | cons a r ih =>
      rw [List.any_cons] at h
      have e : ¬ a.1 = k := fun z => h (by rw [decide_eq_true z, Bool.true_or])
      rw [List.cons_append, valV_neg e]
      refine ih fun z => h (by rw [z, Bool.or_true])
theorem mem_keys_put {α : Type} {m : List (Str × α)} {k q : Str} {x : α} : q ∈ keys (dput m k x) ↔ q = k ∨ q ∈ keys m := by
  rw [← dget_isSome, dget_put, ← dget_isSome]
  by_cases h : q = k
  · rw [if_pos h]
    simp [h]
  · rw [if_neg h]
    simp [h]
section
variable {P : Program} {w : World} {K : PySem.W.Frag} {mg : Str → Option Value} {base : Heap} {C : Addr}
abbrev s_law_ranks : Stmt := top 65
abbrev N_law_ranks : List Str := ["_law_rows", "_law_found", "_law_name", "_law_groups", "_law_number", "_law_group", "_law_other"]
theorem sc_law_ranks : FnScope N_law_ranks ["_law_rows"] (C8.fnScope s_law_ranks) := ⟨rfl, rfl, rfl, by decide +kernel, rfl, by decide +kernel, by decide +kernel⟩
theorem ok_law_ranks (T : Bi mg) (Dd : Dn K mg "_law_ranks" s_law_ranks ["_law_rows"]) : P_law_ranks P w K mg base := by
  refine cal1 Dd sc_law_ranks fun f cdv A outer s H E hr => ?_
  have hu := hu_of hr
  refine ⟨_, (pss_cons (ps_set (i := 1) sc_law_ranks.nd rfl (Or.inl rfl) pe_dnewK) (
    pss_cons (ps_for PassesOwn.never rfl (pi_list (pv 0)) (pg_tup rfl (pgs_cons (pg_name (i := 2) sc_law_ranks.nd rfl (Or.inl rfl)) (pgs_cons (pg_name (i := 3) sc_law_ranks.nd rfl (Or.inl rfl)) pgs_nil)))
    (pss_cons (ps_dput hu (pv 1) (pv 2) pe_dnewK rfl) (
      pss_cons (ps_for PassesOwn.never rfl (pi_enumT (by rfl) T.enum (pa_cons (pv 3) pa_nil)) (pg_tup rfl (pgs_cons (pg_name (i := 4) sc_law_ranks.nd rfl (Or.inl rfl)) (pgs_cons (pg_name (i := 5) sc_law_ranks.nd rfl (Or.inl rfl)) pgs_nil)))
      (pss_cons (ps_for PassesOwn.never rfl (pi_tup (pv 5)) (pg_name (i := 6) sc_law_ranks.nd rfl (Or.inl rfl))
        (pss_cons (ps_dput hu (pe_dget hu (pv 1) (pv 2) (fun _ _ => rfl)) (pv 6) (pv 4) rfl) pss_nil)) pss_nil)) pss_nil))) (
    pss_cons (ps_ret (pv 1)) pss_nil))), ?_⟩
  rintro B D v1 rows h1 ⟨hnd, hl, hfl⟩ ret -
  dsimp only at hnd hl hfl
  have ret : RetOk B (tDct (tDct tInt)) (fun d => RRk rows d) D := ret
  refine st_newD fun pf => ?_
  refine st_forL (tgP K tStr (tGrps K) 2 3) (fun i (γ : Option V × Option V × Option V × Option V × Option V × List (Key × V) × List (Str × List (Str × Int))) => keys γ.2.2.2.2.2.2 = keys (rows.take i) ∧ γ.2.2.2.2.2.1.length ≤ i ∧ RRk (rows.take i) γ.2.2.2.2.2.2) (fun γ => kvsA (tDct tInt) γ.2.2.2.2.2.1 γ.2.2.2.2.2.2) (fun γ => [(pf, .dK γ.2.2.2.2.2.1)])
    (fun γ => [some v1, some (.ref pf), γ.1, γ.2.1, γ.2.2.1, γ.2.2.2.1, γ.2.2.2.2.1]) ev_var (none, none, none, none, none, [], []) ⟨rfl, Nat.zero_le _, fun r hr => absurd hr (by simp)⟩ (fun _ _ => .nil) ?_ ?_
  · rintro L i ⟨n, gs⟩ ⟨w2, w3⟩ ⟨o2, o3, o4, o5, o6, kvs, xs⟩ hx ⟨ho2, ho3⟩ ⟨hk, hkl, hR⟩
    have ho2 : w2 = V.str n := ho2
    subst ho2
    dsimp only at hk hkl hR ⊢
    have hi : i < rows.length := (List.getElem?_eq_some_iff.mp hx).1
    have hgl : gs.flatten.length ≤ 10 := hfl _ (List.mem_of_getElem? hx)
    have e1 : rows.take (i + 1) = rows.take i ++ [(n, gs)] := by rw [List.take_add_one, hx]; rfl
    have hnk : n ∉ keys xs := by
      rw [hk]
      unfold keys
      rw [List.map_take]
      exact not_mem_take hnd (by rw [List.getElem?_map, hx]; rfl)
    refine st_putNew (k := n) (kvs := kvs) (j := 0) rfl (Nat.lt_of_le_of_lt hkl (Nat.lt_of_lt_of_le hi (Nat.le_trans hl (by decide)))) ev_var fun p2 => ?_
    refine st_forET (tgP K tInt (tTup K tStr) 4 5) (fun j (γ : Option V × Option V × Option V × List (Str × Int)) => (∀ q, q ∈ keys γ.2.2.2 ↔ q ∈ (gs.take j).flatten) ∧ γ.2.2.2.length ≤ (gs.take j).flatten.length) (fun _ => Asr.tt) (fun γ => [(p2, .dK (akv V.int γ.2.2.2)), (pf, .dK (putK kvs (.inr n) (.ref p2)))])
      (fun γ => [some v1, some (.ref pf), some (.str n), some w3, γ.1, γ.2.1, γ.2.2.1]) (ea_cons ev_var ea_nil) (o4, o5, o6, []) ⟨fun q => by simp [keys], Nat.zero_le _⟩ (fun _ _ => trivial) ?_ ?_
    · rintro L2 j g ⟨w4, w5⟩ ⟨o4, o5, o6, m⟩ hx2 ⟨ho4, ho5⟩ ⟨hm, hml⟩
      have ho4 : w4 = V.int (j : Int) := ho4
      subst ho4
      dsimp only at hm hml ⊢
      have e2 : (gs.take (j + 1)).flatten = (gs.take j).flatten ++ g := by rw [List.take_add_one, hx2, List.flatten_append]; simp
      have hle : (gs.take j).flatten.length + g.length ≤ 10 := by
        have : (gs.take (j + 1)).flatten.length ≤ gs.flatten.length := by
          conv => rhs; rw [← List.take_append_drop (j + 1) gs, List.flatten_append, List.length_append]
          exact Nat.le_add_right _ _
        rw [e2, List.length_append] at this
        omega
      refine st_forT (tgN tStr 6) (fun k (γ : Option V × List (Str × Int)) => (∀ q, q ∈ keys γ.2 ↔ q ∈ (gs.take j).flatten ∨ q ∈ g.take k) ∧ γ.2.length ≤ (gs.take j).flatten.length + k) (fun _ => Asr.tt) (fun γ => [(p2, .dK (akv V.int γ.2)), (pf, .dK (putK kvs (.inr n) (.ref p2)))])
        (fun γ => [some v1, some (.ref pf), some (.str n), some w3, some (.int (j : Int)), some w5, γ.1]) ev_var (o6, m) ⟨fun q => by rw [hm]; simp, hml⟩ (fun _ _ => trivial) ?_ ?_
      · rintro L3 k q ω ⟨o6, m⟩ hx3 ho ⟨hm, hml⟩
        have ho : ω = V.str q := ho
        subst ho
        dsimp only at hm hml ⊢
        have hk : k < g.length := (List.getElem?_eq_some_iff.mp hx3).1
        refine st_dputIn (kvs := putK kvs (.inr n) (.ref p2)) (k := q) (k0 := n) (f := V.int) (ms := m) (x := (j : Int)) (j := 1) (j2 := 0) (p2 := p2) rfl (valV_put _ _ _) rfl (Nat.lt_of_le_of_lt (show m.length ≤ 10 by omega) (by decide)) ev_varE ev_var ev_var ?_
        refine st_turn rfl (some (.str q), dput m q (j : Int)) ⟨fun z => ?_, ?_⟩ (fun _ _ => trivial)
        · rw [mem_keys_put, hm, List.take_add_one, hx3]
          simp only [List.mem_append, Option.toList_some, List.mem_singleton]
          constructor
          · rintro (h | h | h)
            · exact .inr (.inr h)
            · exact .inl h
            · exact .inr (.inl h)
          · rintro (h | h | h)
            · exact .inr (.inl h)
            · exact .inr (.inr h)
            · exact .inl h
        · have := dput_len m q (j : Int)
          show (dput m q (j : Int)).length ≤ _
          omega
      · rintro L3 ⟨o6, m⟩ ⟨hm, hml⟩
        dsimp only at hm hml ⊢
        rw [List.take_of_length_le (Nat.le_refl _)] at hm
        refine st_turn rfl (some (.int (j : Int)), some w5, o6, m) ⟨fun q => ?_, ?_⟩ (fun _ _ => trivial)
        · show q ∈ keys m ↔ _
          rw [hm, e2, List.mem_append]
        · show m.length ≤ _
          rw [e2, List.length_append]
          exact hml
    · rintro L2 ⟨o4, o5, o6, m⟩ ⟨hm, hml⟩
      dsimp only at hm hml ⊢
      rw [List.take_of_length_le (Nat.le_refl _)] at hm hml
      refine st_pub (pub_dA (f := V.int) (xs := m) (by omega)) ?_
      refine st_turn rfl (some (.str n), some w3, o4, o5, o6, putK kvs (.inr n) (.ref p2), xs ++ [(n, m)]) ⟨?_, Nat.le_trans (length_putK _ _ _) (Nat.succ_le_succ hkl), ?_⟩ (fun G mm => ?_)
      · show keys (xs ++ [(n, m)]) = keys (rows.take (i + 1))
        rw [e1]
        unfold keys at hk ⊢
        rw [List.map_append, List.map_append, hk]
        rfl
      · show RRk (rows.take (i + 1)) _
        rw [e1]
        intro r hr
        rcases List.mem_append.mp hr with h | h
        · obtain ⟨m', h1, h2⟩ := hR r h
          exact ⟨m', by rw [dget_append, h1]; rfl, h2⟩
        · rw [List.mem_singleton.mp h]
          refine ⟨m, ?_, hm⟩
          rw [dget_append, dget_none.mpr hnk, dget_cons, if_pos rfl]
          rfl
      · have := Fa.kput (mm.1.1.1.1.1.2) n mm.2
        rw [dput_out hnk] at this
        exact this
  · rintro L ⟨o2, o3, o4, o5, o6, kvs, xs⟩ ⟨hk, hkl, hR⟩
    dsimp only at hk hkl hR ⊢
    rw [List.take_of_length_le (Nat.le_refl _)] at hk hR
    have hxl : xs.length ≤ 1000 := by
      have := congrArg List.length hk
      rw [keys_len, keys_len] at this
      omega
    exact st_pub (x := xs) (t := tDct (tDct tInt)) (pub_dK hxl) (st_retF ret ev_var hR)
abbrev s_law_chosen : Stmt := top 66
abbrev N_law_chosen : List Str := ["_law_world_here", "_law_person", "_law_ranks_here", "_law_row"]
theorem sc_law_chosen : FnScope N_law_chosen ["_law_world_here", "_law_person"] (C8.fnScope s_law_chosen) := ⟨rfl, rfl, rfl, by decide +kernel, rfl, by decide +kernel, by decide +kernel⟩
theorem ok_law_chosen (T : Bi mg) (Dd : Dn K mg "_law_chosen" s_law_chosen ["_law_world_here", "_law_person"]) (c__law_ranks : P_law_ranks P w K mg base) : P_law_chosen P w K mg base := by
  refine cal2 Dd sc_law_chosen fun f cdv A outer s H E hr => ?_
  have hu := hu_of hr
  refine ⟨_, (pss_cons (ps_set (i := 2) sc_law_chosen.nd rfl (Or.inr rfl) (pe_dget hu (C8.pe_c c__law_ranks hr (by decide) (by rfl) (pa_cons (pe_ix (ixL K) (pv 0) pe_int (fun _ _ => rfl)) pa_nil)) (pv 1) (fun _ _ => rfl))) (
    pss_cons (ps_ret (pe_lc (own := [("_law_row", 3)]) (g := gName 3) (by rfl) sc_law_chosen.nd (pi_list (pe_ix (ixL K) (pv 0) pe_int (fun _ _ => rfl))) (blkOk_by (own := [("_law_row", 3)]) (N := N_law_chosen) (sc := C8.fnScope s_law_chosen) (by decide +kernel)) (fun _ _ _ _ _ => (pg_name (i := 3) sc_law_chosen.nd rfl (Or.inl rfl))) (fun _ _ _ _ _ => (pts_one (pt_cmp (pc_din hu (pe_ix (ixT K) (pv 3) pe_int (fun _ _ => rfl)) (pv 2)) rfl))) (fun _ _ _ _ _ => (pe_ix (ixT K) (pv 3) pe_int (fun _ _ => rfl))))) pss_nil)), ?_⟩
  rintro B D v1 v2 W p h1 rfl ⟨pre, hp⟩ ret -
  dsimp only at pre hp
  obtain ⟨gs, hg, eg, _⟩ := pre.row hp
  refine st_asgR (evr_dget (k := p) (evr_call (i := (W.rows, ())) (ea_cons (ev_w1 ev_var) ea_nil) ⟨pre.rows.nd, pre.rows.len, fun r hr => ((pre.rows.ok r hr).2).len⟩) ev_var fun d hd => ?_) fun v2 m ⟨d, hd, hm⟩ _ => ?_
  · obtain ⟨m, h, _⟩ := hd _ hg
    rw [show dget d p = some m from h]
    rfl
  · obtain ⟨m', h1, h2⟩ := hd _ hg
    have h1 : dget d p = some m' := h1
    rw [hm] at h1
    cases h1
    refine st_retF ret (ev_lcL (u := tStr) (tgN (tPair K tStr tInt) 3) (fun r => decide (r.1 ∈ (W.groups p).flatten)) (·.1) (ev_w2 ev_var) (fun L r ω hr ho => et_is (et_B (ev_din (ev_fst ev_var) ev_var)) ?_) (fun L r ω hr ho _ => ev_fst ev_var)) ?_
    · rw [Bool.eq_iff_iff, dget_isSome, decide_eq_true_iff, h2, eg]
    · show _ = chosen W p
      unfold chosen Wo.places
      rw [List.filter_map]
      rfl
abbrev s_law_holders : Stmt := top 67
abbrev N_law_holders : List Str := ["_law_world_here"]
theorem sc_law_holders : FnScope N_law_holders ["_law_world_here"] (C8.fnScope s_law_holders) := ⟨rfl, rfl, rfl, by decide +kernel, rfl, by decide +kernel, by decide +kernel⟩
theorem ok_law_holders (T : Bi mg) (Dd : Dn K mg "_law_holders" s_law_holders ["_law_world_here"]) : P_law_holders P w K mg base := by
  refine cal1 Dd sc_law_holders fun f cdv A outer s H E hr => ⟨_, (pss_cons (ps_ret (pe_callTy (k_dictP K rfl) (by rfl) T.dict (by decide +kernel) (pa_cons (pe_ix (ixL K) (pv 0) pe_int (fun _ _ => rfl)) pa_nil))) pss_nil), ?_⟩
  rintro B D v1 W h1 pre ret -
  exact st_retF ret (ev_dictP (ev_w2 ev_var) pre.spots.nd)
abbrev s_law_is_dealing : Stmt := top 68
abbrev N_law_is_dealing : List Str := ["_law_world_here", "_law_dealing", "_law_holders_here", "_law_names_here", "_law_row", "_law_person", "_law_place"]
theorem sc_law_is_dealing : FnScope N_law_is_dealing ["_law_world_here", "_law_dealing"] (C8.fnScope s_law_is_dealing) := ⟨rfl, rfl, rfl, by decide +kernel, rfl, by decide +kernel, by decide +kernel⟩
theorem ok_law_is_dealing (T : Bi mg) (Dd : Dn K mg "_law_is_dealing" s_law_is_dealing ["_law_world_here", "_law_dealing"]) (c__law_holders : P_law_holders P w K mg base) (c__law_chosen : P_law_chosen P w K mg base) : P_law_is_dealing P w K mg base := by
  refine cal2 Dd sc_law_is_dealing fun f cdv A outer s H E hr => ?_
  have hu := hu_of hr
  refine ⟨_, (pss_cons (ps_set (i := 2) sc_law_is_dealing.nd rfl (Or.inr rfl) (C8.pe_c c__law_holders hr (by decide) (by rfl) (pa_cons (pv 0) pa_nil))) (
    pss_cons (ps_if (pt_not (pt_val (pe_callB (k_isi K) (by rfl) T.isi (by decide +kernel) (pa_cons (pv 1) (pa_cons (pe_bltn (v := .ty "dict") (u := .type "dict") (by rfl) T.dict (by decide +kernel) rfl) pa_nil)))))
    (pss_cons (ps_ret pe_bl) pss_nil)
    pss_nil) (
    pss_cons (ps_setLc (i := 3) (own := [("_law_row", 4)]) (g := gName 4) (tt := tYes) (by rfl) sc_law_is_dealing.nd rfl rfl (sw_true rfl rfl rfl (by decide +kernel)) (pi_list (pe_ix (ixL K) (pv 0) pe_int (fun _ _ => rfl))) (blkOk_by (own := [("_law_row", 4)]) (N := N_law_is_dealing) (sc := C8.fnScope s_law_is_dealing) (by decide +kernel)) (fun _ _ _ _ _ => (pg_name (i := 4) sc_law_is_dealing.nd rfl (Or.inl rfl))) (fun _ _ _ _ _ => pts_nil) (fun _ _ _ _ _ => (pe_ix (ixT K) (pv 4) pe_int (fun _ _ => rfl)))) (
    pss_cons (ps_lockM (ps_for PassesOwn.never rfl (pi_items (pv 1)) (pg_tup rfl (pgs_cons (pg_name (i := 5) sc_law_is_dealing.nd rfl (Or.inl rfl)) (pgs_cons (pg_name (i := 6) sc_law_is_dealing.nd rfl (Or.inl rfl)) pgs_nil)))
    (pss_cons (ps_if ((pw_or (pt_cmpR (o_nin K) (pv 5) (pv 3) rfl) (pw_or1 (pt_cmpR (o_nin K) (pv 6) (C8.pe_c c__law_chosen hr (by decide) (by rfl) (pa_cons (pv 0) (pa_cons (pv 5) pa_nil))) rfl)))).pt
      (pss_cons (ps_ret pe_bl) pss_nil)
      pss_nil) pss_nil))) (
    pss_cons (ps_ret (pe_cmpR (o_eqEK K hr.units0) (pe_lockM (pe_lc (own := [("_law_place", 6)]) (g := gName 6) (by rfl) sc_law_is_dealing.nd (pi_keys (pv 2)) (blkOk_by (own := [("_law_place", 6)]) (N := N_law_is_dealing) (sc := C8.fnScope s_law_is_dealing) (by decide +kernel)) (fun _ _ _ _ _ => (pg_name (i := 6) sc_law_is_dealing.nd rfl (Or.inl rfl))) (fun _ _ _ _ _ => (pts_one (pt_cmpR op_gt (k_bm K rfl PySem.F.plainAttrs_list PySem.F.slot_list_count PySem.F.type_list_count (k_count K) (pe_listVals (by rfl) T.list (pv 1)) (pa_cons (pv 6) pa_nil)) (pe_dget hu (pv 2) (pv 6) (fun _ _ => rfl)) (nomark _)))) (fun _ _ _ _ _ => (pv 6)))) (pe_lst pa_nil) (nomark _))) pss_nil))))), ?_⟩
  rintro B D v1 v2 W d h1 h2 ⟨pre, va⟩ ret -
  dsimp only at pre va
  refine st_asg (ev_call (ea_cons ev_var ea_nil) pre) fun v2 _ => ?_
  refine st_ifF (et_is (et_not (et_B (ev_isi (b := true) ev_var ty_dct (by decide +kernel)))) rfl) (st_thru ?_)
  refine st_asg (x := W.people) (ev_mapL (u := tStr) (tgN (tPair K tStr (tGrps K)) 4) (·.1) (ev_w1 ev_var) fun L r ω _ _ => ev_fst ev_var) fun v3 _ => ?_
  refine st_forI (tgP K tStr tStr 5 6) (fun i (γ : Option V × Option V) => True) (fun _ => Asr.tt) (fun _ => []) (fun γ => [some v1, _, some v2, some v3, none, γ.1, γ.2]) evd_var (none, none) trivial (fun _ _ => trivial) ?_ ?_
  · rintro L B' D' hret i ⟨p, q⟩ ⟨w1, w2⟩ c hx ⟨o1, o2⟩ -
    have o1 : w1 = V.str p := o1
    have o2 : w2 = V.str q := o2
    subst o1 o2
    obtain ⟨hp, hq⟩ := va.fs _ (List.mem_of_getElem? hx)
    dsimp only at hp hq
    refine st_ifF (et_is (et_or (b := false) (et_is (et_test (ev_ninL (xs := W.people) (k := p) ev_var ev_var)) (b' := false) (by rw [decide_eq_true hp]; rfl)) fun _ => et_is (et_test (ev_ninL (xs := chosen W p) (k := q) ev_var (ev_call (ea_cons ev_var (ea_cons ev_var ea_nil)) ⟨pre, hp⟩))) (by rw [decide_eq_true hq]; rfl)) rfl) (st_thru (st_turn rfl (some (.str p), some (.str q)) trivial (fun _ _ => trivial)))
  · rintro L ⟨o5, o6⟩ -
    refine st_retF ret (ev_is (ev_eqE (ev_is (ev_lcK (K := K) (u := tStr) (fun _ => false) id evd_var (fun L k n hk => ?_) (fun L k x hk h => (nomatch h))) (x' := []) ?_)) rfl) rfl
    · have hkp : k ∈ W.places := mem_keys hk
      refine et_is (et_test (ev_gt (ev_countS (k := k) (ev_listVals (K := K) ev_var) ev_var) (ev_dget (k := k) ev_var ev_var (pre.spot hkp).1))) ?_
      have := va.cp k hkp
      exact decide_eq_false (Int.not_lt.mpr this)
    · rw [List.filter_eq_nil_iff.mpr (by simp)]
      rfl
abbrev s_law_has_room : Stmt := top 70
abbrev N_law_has_room : List Str := ["_law_world_here", "_law_dealing", "_law_place"]
theorem sc_law_has_room : FnScope N_law_has_room ["_law_world_here", "_law_dealing", "_law_place"] (C8.fnScope s_law_has_room) := ⟨rfl, rfl, rfl, by decide +kernel, rfl, by decide +kernel, by decide +kernel⟩
theorem ok_law_has_room (T : Bi mg) (Dd : Dn K mg "_law_has_room" s_law_has_room ["_law_world_here", "_law_dealing", "_law_place"]) (c__law_holders : P_law_holders P w K mg base) : P_law_has_room P w K mg base := by
  refine cal3 Dd sc_law_has_room fun f cdv A outer s H E hr => ?_
  have hu := hu_of hr
  refine ⟨_, (pss_cons (ps_ret (pe_cmpR op_lt (k_bm K rfl PySem.F.plainAttrs_list PySem.F.slot_list_count PySem.F.type_list_count (k_count K) (pe_listVals (by rfl) T.list (pv 1)) (pa_cons (pv 2) pa_nil)) (pe_dget hu (C8.pe_c c__law_holders hr (by decide) (by rfl) (pa_cons (pv 0) pa_nil)) (pv 2) (fun _ _ => rfl)) (nomark _))) pss_nil), ?_⟩
  rintro B D v1 v2 v3 W d q h1 h2 rfl ⟨pre, hq⟩ ret -
  dsimp only at pre hq
  exact st_retF ret (ev_lt (ev_countS (k := q) (ev_listVals (K := K) ev_var) ev_var) (ev_dget (k := q) (ev_call (ea_cons ev_var ea_nil) pre) ev_var (pre.spot hq).1))
theorem fw_eq {W : Wo} (pre : PreW W) : fw W = W.rows.map fun r => (r.1, r.2.headD []) := by
  unfold fw Wo.people
  rw [List.map_map]
  apply List.map_congr_left
  intro r hr
  have hg := nd_mem pre.rows.nd (show (r.1, r.2) ∈ W.rows from hr)
  show (r.1, W.first r.1) = _
  unfold Wo.first Wo.groups
  rw [hg]
  rfl
abbrev s_law_firsts : Stmt := top 71
abbrev N_law_firsts : List Str := ["_law_world_here", "_law_name", "_law_groups"]
theorem sc_law_firsts : FnScope N_law_firsts ["_law_world_here"] (C8.fnScope s_law_firsts) := ⟨rfl, rfl, rfl, by decide +kernel, rfl, by decide +kernel, by decide +kernel⟩
theorem ok_law_firsts (T : Bi mg) (Dd : Dn K mg "_law_firsts" s_law_firsts ["_law_world_here"]) : P_law_firsts P w K mg base := by
  refine cal1 Dd sc_law_firsts fun f cdv A outer s H E hr => ⟨_, (pss_cons (ps_ret (pe_callTy (k_dictP K rfl) (by rfl) T.dict (by decide +kernel) (pa_cons (pe_lc (own := [("_law_name", 1), ("_law_groups", 2)]) (g := gTup K 2 (gCons (gName 1) (gCons (gName 2) (gNil)))) (tt := tYes) (by rfl) sc_law_firsts.nd (pi_list (pe_ix (ixL K) (pv 0) pe_int (fun _ _ => rfl))) (blkOk_by (own := [("_law_name", 1), ("_law_groups", 2)]) (N := N_law_firsts) (sc := C8.fnScope s_law_firsts) (by decide +kernel)) (fun _ _ _ _ _ => (pg_tup (by rfl) (pgs_cons (pg_name (i := 1) sc_law_firsts.nd rfl (Or.inl rfl)) (pgs_cons (pg_name (i := 2) sc_law_firsts.nd rfl (Or.inl rfl)) pgs_nil)))) (fun _ _ _ _ _ => pts_nil) (fun _ _ _ _ _ => (pe_tup (pa_cons (pv 1) (pa_cons (pe_callTy (k_list K) (by rfl) T.list (by decide +kernel) (pa_cons (pe_ix (ixT K) (pe_op (k_catA K) (pv 2) (pe_tup (pa_cons (pe_tup pa_nil) pa_nil))) pe_int (fun _ _ => rfl)) pa_nil)) pa_nil))))) pa_nil))) pss_nil), ?_⟩
  rintro B D v1 W h1 pre ret -
  have pre : PreW W := pre
  refine st_retF ret (ev_dictP (ev_is (ev_mapL (u := tPair K tStr (tLst K tStr)) (tgP K tStr (tGrps K) 1 2) (fun r => (r.1, r.2.headD [])) (ev_w1 ev_var) fun L r ω hr ho => ?_) (fw_eq pre).symm) ?_) rfl
  · obtain ⟨n, gs⟩ := r
    obtain ⟨w1, w2⟩ := ω
    obtain ⟨o1, o2⟩ := ho
    have o1 : w1 = V.str n := o1
    subst o1
    have hgl : gs.length ≤ 10 := by
      have h := ((pre.rows.ok _ hr).2)
      have h2 := h.len
      have gen : ∀ l : List (List Str), (∀ g ∈ l, g ≠ []) → l.length ≤ l.flatten.length := by
        intro l
        induction l with
        | nil => intro _; exact Nat.le_refl _
        | cons g r ih =>
          intro hh
          rw [List.flatten_cons, List.length_append, List.length_cons]
          have := ih fun g hg => hh g (by simp [hg])
          have := List.length_pos_iff.mpr (hh g (by simp))
          omega
      exact Nat.le_trans (gen gs fun g hg => (h.ne g hg).1) h2
    refine ev_pair ev_var (ev_listT (ev_ixT (xs := gs ++ [[]]) (i := 0) (x := gs.headD []) (ev_catA (t := tTup K tStr) ev_var (ev_tupD (exs_cons ev_tup0 exs_nil) (by simp)) (by simp; omega)) ev_int rfl ?_))
    cases gs <;> rfl
  · show (keys (fw W)).Nodup
    unfold fw
    rw [keys_mapF]
    exact pre.rows.nd
abbrev s_law_is_firsts : Stmt := top 72
abbrev N_law_is_firsts : List Str := ["_law_world_here", "_law_dealing", "_law_many_here", "_law_firsts_here", "_law_person", "_law_place"]
theorem sc_law_is_firsts : FnScope N_law_is_firsts ["_law_world_here", "_law_dealing", "_law_many_here"] (C8.fnScope s_law_is_firsts) := ⟨rfl, rfl, rfl, by decide +kernel, rfl, by decide +kernel, by decide +kernel⟩
theorem ok_law_is_firsts (T : Bi mg) (Dd : Dn K mg "_law_is_firsts" s_law_is_firsts ["_law_world_here", "_law_dealing", "_law_many_here"]) (c__law_is_dealing : P_law_is_dealing P w K mg base) (c__law_firsts : P_law_firsts P w K mg base) : P_law_is_firsts P w K mg base := by
  refine cal3 Dd sc_law_is_firsts fun f cdv A outer s H E hr => ?_
  have hu := hu_of hr
  refine ⟨_, (pss_cons (ps_if ((pw_or (pt_not (pt_val (C8.pe_c c__law_is_dealing hr (by decide) (by rfl) (pa_cons (pv 0) (pa_cons (pv 1) pa_nil))))) (pw_or1 (pt_cmpR op_ne (pe_callB (k_len K) (by rfl) T.len (by decide +kernel) (pa_cons (pv 1) pa_nil)) (pv 2) (nomark _))))).pt
    (pss_cons (ps_ret pe_bl) pss_nil)
    pss_nil) (
    pss_cons (ps_set (i := 3) sc_law_is_firsts.nd rfl (Or.inr rfl) (C8.pe_c c__law_firsts hr (by decide) (by rfl) (pa_cons (pv 0) pa_nil))) (
    pss_cons (ps_ret (pe_callB (k_all K rfl) (by rfl) T.all (by decide +kernel) (pa_cons (pe_lockM (pe_lc (own := [("_law_person", 4), ("_law_place", 5)]) (g := gTup K 2 (gCons (gName 4) (gCons (gName 5) (gNil)))) (tt := tYes) (by rfl) sc_law_is_firsts.nd (pi_items (pv 1)) (blkOk_by (own := [("_law_person", 4), ("_law_place", 5)]) (N := N_law_is_firsts) (sc := C8.fnScope s_law_is_firsts) (by decide +kernel)) (fun _ _ _ _ _ => (pg_tup (by rfl) (pgs_cons (pg_name (i := 4) sc_law_is_firsts.nd rfl (Or.inl rfl)) (pgs_cons (pg_name (i := 5) sc_law_is_firsts.nd rfl (Or.inl rfl)) pgs_nil)))) (fun _ _ _ _ _ => pts_nil) (fun _ _ _ _ _ => (pe_cmpR (o_in K) (pv 5) (pe_dget hu (pv 3) (pv 4) (fun _ _ => rfl)) rfl)))) pa_nil))) pss_nil))), ?_⟩
  rintro B D v1 v2 v3 W d m h1 h2 rfl ⟨pre, va⟩ ret -
  dsimp only at pre va
  refine st_if (et_is (et_or (b := !decide ((d.length : Int) = m)) (et_not (et_B (ev_call (ea_cons ev_var (ea_cons ev_var ea_nil)) ⟨pre, va⟩))) fun _ => et_test (ev_neI (ev_lenD ev_var) ev_var)) (Bool.false_or _)) (fun hb => ?_) (fun hb => ?_)
  · refine st_retF ret ev_bl ?_
    rw [Bool.not_eq_true'] at hb
    show false = (decide ((d.length : Int) = m) && isFirsts W d)
    rw [hb]
    rfl
  · rw [Bool.not_eq_false'] at hb
    refine st_thru (st_asg (ev_call (ea_cons ev_var ea_nil) pre) fun v3 _ => ?_)
    refine st_retF ret (ev_is (ev_all (ev_is (ev_lcI (u := tBool) (tgP K tStr tStr 4 5) (fun _ => true) (fun x => decide (x.2 ∈ W.first x.1)) evd_var (fun _ _ _ _ _ => et_yes) (fun L x ω hx ho _ => ?_)) (by rw [filter_yes]))) (x' := decide ((d.length : Int) = m) && isFirsts W d) ?_) rfl
    · obtain ⟨p, q⟩ := x
      obtain ⟨w1, w2⟩ := ω
      obtain ⟨o1, o2⟩ := ho
      have o1 : w1 = V.str p := o1
      have o2 : w2 = V.str q := o2
      subst o1 o2
      obtain ⟨hp, hq⟩ := va.fs _ hx
      exact ev_inL (xs := W.first p) (k := q) ev_var (ev_dget (k := p) ev_var ev_var (by unfold fw; rw [dget_mapF, if_pos hp]))
    · rw [hb, Bool.true_and]
      unfold isFirsts
      rw [List.all_map]
      rfl
abbrev s_law_told_of : Stmt := top 73
abbrev N_law_told_of : List Str := ["_law_names_here", "_law_thing", "_law_name"]
theorem sc_law_told_of : FnScope N_law_told_of ["_law_names_here", "_law_thing"] (C8.fnScope s_law_told_of) := ⟨rfl, rfl, rfl, by decide +kernel, rfl, by decide +kernel, by decide +kernel⟩
theorem ok_law_told_of (T : Bi mg) (Dd : Dn K mg "_law_told_of" s_law_told_of ["_law_names_here", "_law_thing"]) : P_law_told_of P w K mg base := by
  refine cal2 Dd sc_law_told_of fun f cdv A outer s H E hr => ?_
  have hu := hu_of hr
  refine ⟨_, (pss_cons (ps_if ((pw_or (pt_not (pt_val (pe_callB (k_isi K) (by rfl) T.isi (by decide +kernel) (pa_cons (pv 1) (pa_cons (pe_bltn (v := .ty "dict") (u := .type "dict") (by rfl) T.dict (by decide +kernel) rfl) pa_nil))))) (pw_or1 (pt_cmpR op_ne (pe_callB (k_len K) (by rfl) T.len (by decide +kernel) (pa_cons (pv 1) pa_nil)) (pe_callB (k_len K) (by rfl) T.len (by decide +kernel) (pa_cons (pv 0) pa_nil)) (nomark _))))).pt
    (pss_cons (ps_ret pe_bl) pss_nil)
    pss_nil) (
    pss_cons (ps_ret (pe_callB (k_all K rfl) (by rfl) T.all (by decide +kernel) (pa_cons (pe_lc (own := [("_law_name", 2)]) (g := gName 2) (tt := tYes) (by rfl) sc_law_told_of.nd (pi_list (pv 0)) (blkOk_by (own := [("_law_name", 2)]) (N := N_law_told_of) (sc := C8.fnScope s_law_told_of) (by decide +kernel)) (fun _ _ _ _ _ => (pg_name (i := 2) sc_law_told_of.nd rfl (Or.inl rfl))) (fun _ _ _ _ _ => pts_nil) (fun _ _ _ _ _ => (pe_and (pe_cmp (pc_din hu (pv 2) (pv 1)) rfl) (pe_one (pe_cmpR (o_in K) (pe_dget hu (pv 1) (pv 2) (fun _ _ => rfl)) (pe_lst (pa_cons pe_str (pa_cons pe_str (pa_cons pe_str pa_nil)))) rfl))))) pa_nil))) pss_nil)), ?_⟩
  rintro B D v1 v2 names tp h1 h2 hk ret -
  have hk : keys tp = names := hk
  refine st_ifF (et_is (et_or (b := false) (et_not (et_B (ev_isi (b := true) ev_var ty_dct (by decide +kernel)))) fun _ => et_is (et_test (ev_neI (ev_lenD ev_var) (ev_lenL ev_var))) ?_) rfl) (st_thru ?_)
  · rw [← hk, keys_len, decide_eq_true rfl]
    rfl
  refine st_retF ret (ev_is (ev_all (ev_mapL (u := tBool) (tgN tStr 2) (fun _ => true) ev_var fun L n ω hn ho => ?_)) (all_map_true names)) rfl
  have ho : ω = V.str n := ho
  subst ho
  have hn : n ∈ keys tp := by rw [hk]; exact hn
  refine ev_is (ev_andV (a := true) (b := true) (ev_is (ev_din (k := n) ev_var ev_var) (dget_isSome.mpr hn)) fun _ => ?_) rfl
  refine ev_is (ev_inK (k := kdP tp n) (ks := [Kd.loose, Kd.tight, Kd.paired]) (ev_dget (k := n) ev_var ev_var (kd_get hn)) (ev_lst (exs_cons (ev_kd (k := .loose)) (exs_cons (ev_kd (k := .tight)) (exs_cons (ev_kd (k := .paired)) exs_nil))) (by simp))) (decide_eq_true ?_)
  cases kdP tp n <;> simp
end
end G3
set_option maxRecDepth 100000
set_option maxHeartbeats 4000000
/-! LE: all dealings; how sorts fit, by the law. -/
namespace G3
open PySem PySem.Spec PyProof.Rows L2
def longer (W : Wo) (p : Str) (d : List (Str × Str)) : List (List (Str × Str)) := d :: ((chosen W p).filter fun q => decide ((cntV d q : Int) < W.hold q)).map fun q => dput d p q
def dealsOf (W : Wo) (ps : List Str) : List (List (Str × Str)) := ps.foldl (fun found p => found.flatMap (longer W p)) [[]]
def b2n (b : Bool) : Int := if b then 1 else 0
def kindsP (W : Wo) (tq : List (Str × Kd)) (p : Str) : List Kd := (W.first p).map (kdP tq)
def badRow (W : Wo) (tp tq : List (Str × Kd)) (p : Str) : Bool :=
  (decide (kdP tp p = .loose) && (!((kindsP W tq p).filter fun k => !decide (k = .tight)).isEmpty || (W.first p).isEmpty)) || ((decide (kdP tp p = .tight) && !decide (Kd.loose ∈ kindsP W tq p)) || (decide (kdP tp p = .paired) && decide (Kd.loose ∈ kindsP W tq p)))
def kindsQ (W : Wo) (tp : List (Str × Kd)) (q : Str) : List Kd := (W.people.filter fun p => decide (q ∈ W.first p)).map (kdP tp)
def badSpot (W : Wo) (tp tq : List (Str × Kd)) (q : Str) : Bool := decide (kdP tq q = .tight) && !decide (Kd.loose ∈ kindsQ W tp q)
def pairP (W : Wo) (tp : List (Str × Kd)) (p : Str) : Int := b2n (decide (kdP tp p = .paired) && !(W.first p).isEmpty)
def manyP (W : Wo) (tp : List (Str × Kd)) (p : Str) : Int := b2n (!decide (kdP tp p = .loose) && !(W.first p).isEmpty)
def pairQ (W : Wo) (tq : List (Str × Kd)) (q : Str) : Int := W.hold q * b2n (decide (kdP tq q = .paired))
def manyQ (W : Wo) (tq : List (Str × Kd)) (q : Str) : Int := W.hold q * b2n (decide (kdP tq q = .tight))
def lfit (W : Wo) (tp tq : List (Str × Kd)) : Option Int :=
  if (W.people.all fun p => !badRow W tp tq p) && (W.places.all fun q => !badSpot W tp tq q) then
    (if (W.people.map (pairP W tp)).sum - (W.places.map (pairQ W tq)).sum = 0 then some ((W.people.map (manyP W tp)).sum + (W.places.map (manyQ W tq)).sum) else none) else none
def lawB (W : Wo) (tp tq : List (Str × Kd)) (d0 : List (Str × Str)) (pp pq : List (Str × List (Str × Str))) : Bool := match lfit W tp tq with
  | none => false
  | some m => decide ((d0.length : Int) = m) && (lenAll m pp && (lenAll m pq && (pp.all (fun x => !(dget x.2 x.1).isSome) && pq.all fun x => decide ((cntV x.2 x.1 : Int) < W.hold x.1))))
structure PreS (W : Wo) : Prop where
  pre : PreW W
  lr : W.rows.length ≤ 3
  ls : W.spots.length ≤ 3
section
variable (P : Program) (w : World) (K : PySem.W.Frag) (mg : Str → Option Value) (base : Heap) (C : Addr)
abbrev P_law_dealings : Prop := C8.Cal P w K mg base 3 "_law_dealings" (SpF (aCons (tWorld K) aNil) (fun i => PreS i.1) (tLst K (tDct tStr)) fun i => dealsOf i.1 i.1.people) []
abbrev P_law_fit : Prop := C8.Cal P w K mg base 2 "_law_fit" (SpF (aCons (tWorld K) (aCons (tDct tKd) (aCons (tDct tKd) aNil))) (fun i => PreW i.1 ∧ PreT i.1 i.2.1 i.2.2.1) (tOpt V.int) fun i => lfit i.1 i.2.1 i.2.2.1) []
abbrev P_law_papers_right : Prop := C8.Cal P w K mg base 5 "_law_papers_right" (SpF (aCons (tWorld K) (aCons (tDct tKd) (aCons (tDct (tDct tStr)) (aCons tInt aNil)))) (fun i => PreW i.1 ∧ (keys i.2.1).Nodup ∧ keys i.2.2.1 = looseK i.2.1 ∧ ∀ x ∈ i.2.2.1, Val i.1 x.2) tBool fun i => lenAll i.2.2.2.1 i.2.2.1) []
abbrev P_law_sorts_right : Prop := C8.Cal P w K mg base 6 "_law_sorts_right" (SpF (aCons (tWorld K) (aCons (tPair K (tDct tKd) (tDct tKd)) (aCons (tTrip K (tDct tStr) (tDct (tDct tStr)) (tDct (tDct tStr))) aNil))) (fun i => PreW i.1 ∧ PreH i.1 i.2.1.1 i.2.1.2 i.2.2.1.1 i.2.2.1.2.1 i.2.2.1.2.2) tBool fun i => lawB i.1 i.2.1.1 i.2.1.2 i.2.2.1.1 i.2.2.1.2.1 i.2.2.1.2.2) []
end
theorem chosen_len (W : Wo) (p : Str) : (chosen W p).length ≤ W.spots.length := by
  unfold chosen Wo.places
  refine Nat.le_trans (List.length_filter_le _ _) ?_
  rw [List.length_map]
  exact Nat.le_refl _
theorem longer_len {W : Wo} (hs : W.spots.length ≤ 3) (p : Str) (d : List (Str × Str)) : (longer W p d).length ≤ 4 := by
  unfold longer
  rw [List.length_cons, List.length_map]
  have := List.length_filter_le (fun q => decide ((cntV d q : Int) < W.hold q)) (chosen W p)
  have := chosen_len W p
  omega
theorem flat_len {α β : Type} {f : α → List β} {n : Nat} (h : ∀ a, (f a).length ≤ n) : ∀ l : List α, (l.flatMap f).length ≤ n * l.length
  | [] => Nat.zero_le _
  | a :: r => by
    rw [List.flatMap_cons, List.length_append, List.length_cons]
    have := flat_len h r
    have := h a
    rw [Nat.mul_succ]
    omega
theorem dealsOf_snoc {W : Wo} {ps : List Str} {p : Str} : dealsOf W (ps ++ [p]) = (dealsOf W ps).flatMap (longer W p) := by
  unfold dealsOf
  rw [List.foldl_append]
  rfl
theorem longer_item {W : Wo} {p : Str} {d e : List (Str × Str)} {n : Nat} (h : e ∈ longer W p d) (hd : d.length ≤ n) : e.length ≤ n + 1 := by
  unfold longer at h
  rcases List.mem_cons.mp h with z | z
  · rw [z]
    omega
  · obtain ⟨q, _, e2⟩ := List.mem_map.mp z
    rw [← e2]
    have := dput_len d p q
    omega
section
variable {M : Asr} {O : List (Addr × HO)} {σ : L2.St} {K : PySem.W.Frag} {α β : Type} {t : Ty α} {u : Ty β} {te ta tb : TE}
theorem ev_b2n {b : Bool} (ha : Ev M O σ tBool ta b) : Ev M O σ tInt (tCB rIntB (tCons ta tNil)) (b2n b) := ev_intB ha
end
section
variable {P : Program} {w : World} {K : PySem.W.Frag} {mg : Str → Option Value} {base : Heap} {C : Addr}
abbrev s_law_dealings : Stmt := top 69
abbrev N_law_dealings : List Str := ["_law_world_here", "_law_holders_here", "_law_found", "_law_row", "_law_longer", "_law_dealing", "_law_place", "_law_more"]
theorem sc_law_dealings : FnScope N_law_dealings ["_law_world_here"] (C8.fnScope s_law_dealings) := ⟨rfl, rfl, rfl, by decide +kernel, rfl, by decide +kernel, by decide +kernel⟩
theorem ok_law_dealings (T : Bi mg) (Dd : Dn K mg "_law_dealings" s_law_dealings ["_law_world_here"]) (c__law_holders : P_law_holders P w K mg base) (c__law_chosen : P_law_chosen P w K mg base) : P_law_dealings P w K mg base := by
  refine cal1 Dd sc_law_dealings fun f cdv A outer s H E hr => ?_
  have hu := hu_of hr
  refine ⟨_, (pss_cons (ps_set (i := 1) sc_law_dealings.nd rfl (Or.inl rfl) (C8.pe_c c__law_holders hr (by decide) (by rfl) (pa_cons (pv 0) pa_nil))) (
    pss_cons (ps_set (i := 2) sc_law_dealings.nd rfl (Or.inl rfl) (pe_lst (pa_cons pe_dnewK pa_nil))) (
    pss_cons (ps_for PassesOwn.never rfl (pi_list (pe_ix (ixL K) (pv 0) pe_int (fun _ _ => rfl))) (pg_name (i := 3) sc_law_dealings.nd rfl (Or.inl rfl))
    (pss_cons (ps_set (i := 4) sc_law_dealings.nd rfl (Or.inl rfl) (pe_lst pa_nil)) (
      pss_cons (ps_for PassesOwn.never rfl (pi_list (pv 2)) (pg_name (i := 5) sc_law_dealings.nd rfl (Or.inl rfl))
      (pss_cons (ps_expr (k_bm K rfl PySem.F.plainAttrs_list PySem.F.slot_list_append PySem.F.type_list_append mt_append (pv 4) (pa_cons (pv 5) pa_nil))) (
        pss_cons (ps_for PassesOwn.never rfl (pi_list (C8.pe_c c__law_chosen hr (by decide) (by rfl) (pa_cons (pv 0) (pa_cons (pe_ix (ixT K) (pv 3) pe_int (fun _ _ => rfl)) pa_nil)))) (pg_name (i := 6) sc_law_dealings.nd rfl (Or.inl rfl))
        (pss_cons (ps_if (pt_cmpR op_lt (k_bm K rfl PySem.F.plainAttrs_list PySem.F.slot_list_count PySem.F.type_list_count (k_count K) (pe_listVals (by rfl) T.list (pv 5)) (pa_cons (pv 6) pa_nil)) (pe_dget hu (pv 1) (pv 6) (fun _ _ => rfl)) (nomark _))
          (pss_cons (ps_set (i := 7) sc_law_dealings.nd rfl (Or.inl rfl) (pe_callTy c_dictD (by rfl) T.dict (by decide +kernel) (pa_cons (pv 5) pa_nil))) (
            pss_cons (ps_dput hu (pv 7) (pe_ix (ixT K) (pv 3) pe_int (fun _ _ => rfl)) (pv 6) rfl) (
            pss_cons (ps_expr (k_bm K rfl PySem.F.plainAttrs_list PySem.F.slot_list_append PySem.F.type_list_append mt_append (pv 4) (pa_cons (pv 7) pa_nil))) pss_nil)))
          pss_nil) pss_nil)) pss_nil))) (
      pss_cons (ps_set (i := 2) sc_law_dealings.nd rfl (Or.inl rfl) (pv 4)) pss_nil)))) (
    pss_cons (ps_ret (pv 2)) pss_nil)))), ?_⟩
  rintro B D v1 W h1 ⟨pre, hlr, hls⟩ ret -
  dsimp only at pre hlr hls
  refine st_asg (ev_call (ea_cons ev_var ea_nil) pre) fun v2 _ => ?_
  refine st_asg (t := tLst K (tDct tStr)) (x := [[]]) (ev_lst (exs_cons ev_nilD exs_nil)) fun vf0 _ => ?_
  refine st_forL (tgN (tPair K tStr (tGrps K)) 3) (fun i (γ : V × List (List (Str × Str)) × Option V × Option V × Option V × Option V × Option V) => γ.2.1 = dealsOf W (W.people.take i) ∧ γ.2.1.length ≤ 4 ^ i ∧ ∀ d ∈ γ.2.1, d.length ≤ i) (fun γ => Asr.tt.is (tLst K (tDct tStr)) γ.1 γ.2.1) (fun _ => [])
    (fun γ => [some v1, some v2, some γ.1, γ.2.2.1, γ.2.2.2.1, γ.2.2.2.2.1, γ.2.2.2.2.2.1, γ.2.2.2.2.2.2]) (ev_w1 ev_var) (vf0, [[]], none, none, none, none, none) ⟨rfl, Nat.le_refl _, fun d hd => by rw [List.mem_singleton.mp hd]; exact Nat.zero_le _⟩ (fun G m => ⟨trivial, m.2⟩) ?_ ?_
  · rintro L i ⟨p, gs⟩ w3 ⟨vf, ds, o3, o4, o5, o6, o7⟩ hx ho ⟨hds, hdl, hdi⟩
    dsimp only at hds hdl hdi ⊢
    have hi : i < 3 := Nat.lt_of_lt_of_le (List.getElem?_eq_some_iff.mp hx).1 hlr
    have hxp : W.people[i]? = some p := by unfold Wo.people; rw [List.getElem?_map, hx]; rfl
    have hp : p ∈ W.people := List.mem_of_getElem? hxp
    have e1 : W.people.take (i + 1) = W.people.take i ++ [p] := by rw [List.take_add_one, hxp]; rfl
    have hdl2 : ds.length ≤ 16 := by
      have : i = 0 ∨ i = 1 ∨ i = 2 := by omega
      rcases this with h | h | h <;> (rw [h] at hdl; omega)
    refine st_newL fun pl => ?_
    refine st_forL (tgN (tDct tStr) 5) (fun j (γ : Option V × Option V × Option V × List V × List (List (Str × Str))) => γ.2.2.2.2 = (ds.take j).flatMap (longer W p) ∧ γ.2.2.2.1.length = γ.2.2.2.2.length) (fun γ => itsA (tDct tStr) γ.2.2.2.1 γ.2.2.2.2) (fun γ => [(pl, .lst γ.2.2.2.1)])
      (fun γ => [some v1, some v2, some vf, some w3, some (.ref pl), γ.1, γ.2.1, γ.2.2.1]) ev_var (o5, o6, o7, [], []) ⟨rfl, rfl⟩ (fun _ _ => .nil) ?_ ?_
    · rintro L2 j d w5 ⟨o5, o6, o7, vs, ys⟩ hx2 ho2 ⟨hys, hvs⟩
      dsimp only at hys hvs ⊢
      have hdd : d.length ≤ i := hdi d (List.mem_of_getElem? hx2)
      have hj : j < ds.length := (List.getElem?_eq_some_iff.mp hx2).1
      have e2 : (ds.take (j + 1)).flatMap (longer W p) = (ds.take j).flatMap (longer W p) ++ longer W p d := by rw [List.take_add_one, hx2, List.flatMap_append]; simp
      have hyl : ys.length ≤ 64 := by
        have := flat_len (longer_len hls p) (ds.take j)
        rw [← hys, List.length_take] at this
        omega
      have hcl : (chosen W p).length ≤ 3 := Nat.le_trans (chosen_len W p) hls
      refine st_app (t := tDct tStr) (x := d) (j := 0) rfl (Nat.lt_of_le_of_lt (show vs.length ≤ 64 by omega) (by decide)) ev_var fun vd _ => ?_
      refine st_forL (tgN tStr 6) (fun k (γ : Option V × Option V × List V × List (List (Str × Str))) => γ.2.2.2 = ys ++ d :: (((chosen W p).take k).filter fun q => decide ((cntV d q : Int) < W.hold q)).map (fun q => dput d p q) ∧ γ.2.2.1.length = γ.2.2.2.length ∧ γ.2.2.2.length ≤ 65 + k) (fun γ => itsA (tDct tStr) γ.2.2.1 γ.2.2.2) (fun γ => [(pl, .lst γ.2.2.1)])
        (fun γ => [some v1, some v2, some vf, some w3, some (.ref pl), some w5, γ.1, γ.2.1]) (ev_call (ea_cons ev_var (ea_cons (ev_fst (p := (p, gs)) ev_var) ea_nil)) ⟨pre, hp⟩) (o6, o7, vs ++ [vd], ys ++ [d]) ⟨rfl, by rw [List.length_append, List.length_append, hvs]; rfl, by rw [List.length_append]; show ys.length + 1 ≤ 65; omega⟩ (fun G m => m.1.1.2.append (.cons m.2 .nil)) ?_ ?_
      · rintro L3 k q ω ⟨o6, o7, vs2, ys2⟩ hx3 ho3 ⟨hy2, hv2, hl2⟩
        have ho3 : ω = V.str q := ho3
        subst ho3
        dsimp only at hy2 hv2 hl2 ⊢
        have hq := (chosen_mem.mp (List.mem_of_getElem? hx3)).1
        have hk : k < (chosen W p).length := (List.getElem?_eq_some_iff.mp hx3).1
        have e3 : (chosen W p).take (k + 1) = (chosen W p).take k ++ [q] := by rw [List.take_add_one, hx3]; rfl
        refine st_if (et_test (ev_lt (ev_countS (k := q) (ev_listVals (K := K) ev_var) ev_var) (ev_dget (k := q) ev_var ev_var (pre.spot hq).1))) (fun hb => ?_) (fun hb => ?_)
        · have hb : decide ((cntV d q : Int) < W.hold q) = true := hb
          refine st_copyDA ev_var fun pm _ => ?_
          refine st_dputA (f := V.str) (xs := d) (k := p) (x := q) (j := 0) rfl (Nat.lt_of_le_of_lt (show d.length ≤ 3 by omega) (by decide)) ev_var (ev_fst (p := (p, gs)) ev_var) ?_
          have hml := dput_len d p q
          refine st_pub (pub_dA (f := V.str) (xs := dput d p q) (by omega)) ?_
          refine st_app (t := tDct tStr) (x := dput d p q) (j := 0) rfl (Nat.lt_of_le_of_lt (show vs2.length ≤ 68 by omega) (by decide)) ev_var fun vm _ => ?_
          refine st_thru (st_turn rfl (some (.str q), some (.ref pm), vs2 ++ [vm], ys2 ++ [dput d p q]) ⟨?_, ?_, ?_⟩ (fun G m => m.1.1.1.2.append (.cons m.2 .nil)))
          · show ys2 ++ [dput d p q] = _
            rw [e3, List.filter_append, List.map_append, hy2, List.filter_cons, if_pos hb]
            simp
          · show (vs2 ++ [vm]).length = (ys2 ++ [dput d p q]).length
            rw [List.length_append, List.length_append, hv2]
            rfl
          · show (ys2 ++ [dput d p q]).length ≤ _
            rw [List.length_append]
            show ys2.length + 1 ≤ _
            omega
        · have hb : decide ((cntV d q : Int) < W.hold q) = false := hb
          refine st_thru (st_turn rfl (some (.str q), o7, vs2, ys2) ⟨?_, hv2, by show ys2.length ≤ _; omega⟩ (fun G m => m.1.2))
          show ys2 = _
          rw [e3, List.filter_append, List.map_append, hy2, List.filter_cons, if_neg (by rw [hb]; exact Bool.false_ne_true)]
          simp
      · rintro L3 ⟨o6, o7, vs2, ys2⟩ ⟨hy2, hv2, hl2⟩
        dsimp only at hy2 hv2 hl2 ⊢
        rw [List.take_of_length_le (Nat.le_refl _)] at hy2
        refine st_turn rfl (some w5, o6, o7, vs2, ys2) ⟨?_, hv2⟩ (fun G m => m.2)
        show ys2 = _
        rw [e2, ← hys, hy2]
        rfl
    · rintro L2 ⟨o5, o6, o7, vs, ys⟩ ⟨hys, hvs⟩
      dsimp only at hys hvs ⊢
      rw [List.take_of_length_le (Nat.le_refl _)] at hys
      have hyl := flat_len (longer_len hls p) ds
      rw [← hys] at hyl
      refine st_pub (x := ys) (t := tLst K (tDct tStr)) (pub_lK (by omega)) ?_
      refine st_asg (t := tLst K (tDct tStr)) (x := ys) ev_var fun vn _ => ?_
      refine st_turn rfl (vn, ys, some w3, some (.ref pl), o5, o6, o7) ⟨?_, ?_, fun e he => ?_⟩ (fun G m => ⟨trivial, m.2⟩)
      · show ys = _
        rw [e1, dealsOf_snoc, ← hds, hys]
      · show ys.length ≤ 4 ^ (i + 1)
        rw [Nat.pow_succ]
        omega
      · have he : e ∈ ys := he
        rw [hys] at he
        obtain ⟨d, hd, h2⟩ := List.mem_flatMap.mp he
        exact longer_item h2 (hdi d hd)
  · rintro L ⟨vf, ds, o3, o4, o5, o6, o7⟩ ⟨hds, hdl, hdi⟩
    dsimp only at hds hdl hdi ⊢
    have e0 : W.people.take W.rows.length = W.people := List.take_of_length_le (by unfold Wo.people; rw [List.length_map]; exact Nat.le_refl _)
    rw [e0] at hds
    exact st_retF ret ev_var hds
end
end G3
set_option maxRecDepth 100000
set_option maxHeartbeats 4000000
/-! LF: how sorts fit, by the law; the law's look at a paper. -/
namespace G3
open PySem PySem.Spec PyProof.Rows L2
theorem Val.gval {W : Wo} (pre : PreW W) {d : List (Str × Str)} (v : Val W d) : GVal W d := ⟨v.nd, fun x hx => by
  obtain ⟨h1, h2⟩ := v.fs x hx
  have h3 := pre.first_sub h2
  exact ⟨h1, chosen_mem.mpr ⟨pre.flat_sub h1 h3, h3⟩⟩, v.cp⟩
theorem Val.firsts {W : Wo} {d : List (Str × Str)} (v : Val W d) : isFirsts W d = true := List.all_eq_true.mpr fun x hx => decide_eq_true (v.fs x hx).2
theorem sum_take_snoc {α : Type} {xs : List α} {i : Nat} {x : α} (f : α → Int) (hx : xs[i]? = some x) : ((xs.take (i + 1)).map f).sum = ((xs.take i).map f).sum + f x := by
  rw [List.take_add_one, hx, List.map_append, List.sum_append]
  simp
theorem ev_notinK {M : Asr} {O : List (Addr × HO)} {σ : L2.St} {K : PySem.W.Frag} {ta tb : TE} {ks : List Kd} {k : Kd} (ha : Ev M O σ tKd ta k) (hb : Ev M O σ (tLst K tKd) tb ks) : Ev M O σ tBool (tOp (rIn K true) ta tb) (!decide (k ∈ ks)) := ev_ninK ha hb
section
variable {P : Program} {w : World} {K : PySem.W.Frag} {mg : Str → Option Value} {base : Heap} {C : Addr}
abbrev s_law_fit : Stmt := top 74
abbrev N_law_fit : List Str := ["_law_world_here", "_law_people", "_law_places", "_law_firsts_here", "_law_paired", "_law_many_here", "_law_person", "_law_own", "_law_kinds", "_law_place", "_law_kind", "_law_holders_here"]
theorem sc_law_fit : FnScope N_law_fit ["_law_world_here", "_law_people", "_law_places"] (C8.fnScope s_law_fit) := ⟨rfl, rfl, rfl, by decide +kernel, rfl, by decide +kernel, by decide +kernel⟩
theorem ok_law_fit (T : Bi mg) (Dd : Dn K mg "_law_fit" s_law_fit ["_law_world_here", "_law_people", "_law_places"]) (c__law_firsts : P_law_firsts P w K mg base) : P_law_fit P w K mg base := by
  refine cal3 Dd sc_law_fit fun f cdv A outer s H E hr => ?_
  have hu := hu_of hr
  refine ⟨_, (pss_cons (ps_set (i := 3) sc_law_fit.nd rfl (Or.inr rfl) (C8.pe_c c__law_firsts hr (by decide) (by rfl) (pa_cons (pv 0) pa_nil))) (
    pss_cons (ps_set (i := 4) sc_law_fit.nd rfl (Or.inl rfl) pe_int) (
    pss_cons (ps_set (i := 5) sc_law_fit.nd rfl (Or.inl rfl) pe_int) (
    pss_cons (ps_lockM (ps_for PassesOwn.never rfl (pi_items (pv 3)) (pg_tup rfl (pgs_cons (pg_name (i := 6) sc_law_fit.nd rfl (Or.inl rfl)) (pgs_cons (pg_name (i := 7) sc_law_fit.nd rfl (Or.inl rfl)) pgs_nil)))
    (pss_cons (ps_setLc (i := 8) (own := [("_law_place", 9)]) (g := gName 9) (tt := tYes) (by rfl) sc_law_fit.nd rfl rfl (sw_true rfl rfl rfl (by decide +kernel)) (pi_list (pv 7)) (blkOk_by (own := [("_law_place", 9)]) (N := N_law_fit) (sc := C8.fnScope s_law_fit) (by decide +kernel)) (fun _ _ _ _ _ => (pg_name (i := 9) sc_law_fit.nd rfl (Or.inl rfl))) (fun _ _ _ _ _ => pts_nil) (fun _ _ _ _ _ => (pe_dget hu (pv 2) (pv 9) (fun _ _ => rfl)))) (
      pss_cons (ps_if ((pw_and (pt_cmpR op_eq (pe_dget hu (pv 1) (pv 6) (fun _ _ => rfl)) pe_str (nomark _)) (pw_and1 ((pw_or (pt_cmpR (o_neEK K hr.units0) (pe_lc (own := [("_law_kind", 10)]) (g := gName 10) (by rfl) sc_law_fit.nd (pi_list (pv 8)) (blkOk_by (own := [("_law_kind", 10)]) (N := N_law_fit) (sc := C8.fnScope s_law_fit) (by decide +kernel)) (fun _ _ _ _ _ => (pg_name (i := 10) sc_law_fit.nd rfl (Or.inl rfl))) (fun _ _ _ _ _ => (pts_one (pt_cmpR op_ne (pv 10) pe_str (nomark _)))) (fun _ _ _ _ _ => (pv 10))) (pe_lst pa_nil) (nomark _)) (pw_or1 (pt_cmpR (o_eqEK K hr.units0) (pv 7) (pe_lst pa_nil) (nomark _))))).pt))).pt
      (pss_cons (ps_ret pe_non) pss_nil)
      pss_nil) (
      pss_cons (ps_if ((pw_or ((pw_and (pt_cmpR op_eq (pe_dget hu (pv 1) (pv 6) (fun _ _ => rfl)) pe_str (nomark _)) (pw_and1 (pt_cmpR (o_nin K) pe_str (pv 8) rfl)))).pt (pw_or1 ((pw_and (pt_cmpR op_eq (pe_dget hu (pv 1) (pv 6) (fun _ _ => rfl)) pe_str (nomark _)) (pw_and1 (pt_cmpR (o_in K) pe_str (pv 8) rfl)))).pt))).pt
      (pss_cons (ps_ret pe_non) pss_nil)
      pss_nil) (
      pss_cons (ps_set (i := 4) sc_law_fit.nd rfl (Or.inl rfl) (pe_op op_add (pv 4) (pe_callTy c_intB (by rfl) T.int (by decide +kernel) (pa_cons (pe_and (pe_cmpR op_eq (pe_dget hu (pv 1) (pv 6) (fun _ _ => rfl)) pe_str (nomark _)) (pe_one (pe_cmpR (o_neEK K hr.units0) (pv 7) (pe_lst pa_nil) (nomark _)))) pa_nil)))) (
      pss_cons (ps_set (i := 5) sc_law_fit.nd rfl (Or.inl rfl) (pe_op op_add (pv 5) (pe_callTy c_intB (by rfl) T.int (by decide +kernel) (pa_cons (pe_and (pe_cmpR op_ne (pe_dget hu (pv 1) (pv 6) (fun _ _ => rfl)) pe_str (nomark _)) (pe_one (pe_cmpR (o_neEK K hr.units0) (pv 7) (pe_lst pa_nil) (nomark _)))) pa_nil)))) pss_nil))))))) (
    pss_cons (ps_for PassesOwn.never rfl (pi_list (pe_ix (ixL K) (pv 0) pe_int (fun _ _ => rfl))) (pg_tup rfl (pgs_cons (pg_name (i := 9) sc_law_fit.nd rfl (Or.inr rfl)) (pgs_cons (pg_name (i := 11) sc_law_fit.nd rfl (Or.inl rfl)) pgs_nil)))
    (pss_cons (ps_lockM (ps_setLc (i := 8) (own := [("_law_person", 6)]) (g := gName 6) (by rfl) sc_law_fit.nd rfl rfl (sw_true rfl rfl rfl (by decide +kernel)) (pi_keys (pv 3)) (blkOk_by (own := [("_law_person", 6)]) (N := N_law_fit) (sc := C8.fnScope s_law_fit) (by decide +kernel)) (fun _ _ _ _ _ => (pg_name (i := 6) sc_law_fit.nd rfl (Or.inl rfl))) (fun _ _ _ _ _ => (pts_one (pt_cmpR (o_in K) (pv 9) (pe_dget hu (pv 3) (pv 6) (fun _ _ => rfl)) rfl))) (fun _ _ _ _ _ => (pe_dget hu (pv 1) (pv 6) (fun _ _ => rfl))))) (
      pss_cons (ps_if ((pw_and (pt_cmpR op_eq (pe_dget hu (pv 2) (pv 9) (fun _ _ => rfl)) pe_str (nomark _)) (pw_and1 (pt_cmpR (o_nin K) pe_str (pv 8) rfl)))).pt
      (pss_cons (ps_ret pe_non) pss_nil)
      pss_nil) (
      pss_cons (ps_set (i := 4) sc_law_fit.nd rfl (Or.inl rfl) (pe_op op_sub (pv 4) (pe_op op_mul (pv 11) (pe_callTy c_intB (by rfl) T.int (by decide +kernel) (pa_cons (pe_cmpR op_eq (pe_dget hu (pv 2) (pv 9) (fun _ _ => rfl)) pe_str (nomark _)) pa_nil))))) (
      pss_cons (ps_set (i := 5) sc_law_fit.nd rfl (Or.inl rfl) (pe_op op_add (pv 5) (pe_op op_mul (pv 11) (pe_callTy c_intB (by rfl) T.int (by decide +kernel) (pa_cons (pe_cmpR op_eq (pe_dget hu (pv 2) (pv 9) (fun _ _ => rfl)) pe_str (nomark _)) pa_nil))))) pss_nil))))) (
    pss_cons (ps_if (pt_cmpR op_ne (pv 4) pe_int (nomark _))
    (pss_cons (ps_ret pe_non) pss_nil)
    pss_nil) (
    pss_cons (ps_ret (pv 5)) pss_nil))))))), ?_⟩
  rintro B D v1 v2 v3 W tp tq h1 h2 h3 ⟨pre, pt⟩ ret -
  have pre : PreW W := pre
  have pt : PreT W tp tq := pt
  have ret : RetOk B (tOpt V.int) (fun y => y = lfit W tp tq) D := ret
  refine st_asg (ev_call (ea_cons ev_var ea_nil) pre) fun vf _ => ?_
  refine st_asgA ev_int ?_
  refine st_asgA ev_int ?_
  refine st_forI (tgP K tStr (tLst K tStr) 6 7) (fun i (γ : Int × Int × Option V × Option V × Option V) => γ.1 = ((W.people.take i).map (pairP W tp)).sum ∧ γ.2.1 = ((W.people.take i).map (manyP W tp)).sum ∧ (W.people.take i).all (fun p => !badRow W tp tq p) = true) (fun _ => Asr.tt) (fun _ => [])
    (fun γ => [some v1, some v2, some v3, some vf, some (.int γ.1), some (.int γ.2.1), γ.2.2.1, γ.2.2.2.1, γ.2.2.2.2, none, none, none]) evd_var (0, 0, none, none, none) ⟨rfl, rfl, rfl⟩ (fun _ _ => trivial) ?_ ?_
  · rintro L B' D' hret i ⟨p, own⟩ ⟨w6, w7⟩ ⟨a, b, o6, o7, o8⟩ hx ⟨ho6, ho7⟩ ⟨ha, hb, hA⟩
    have ho6 : w6 = V.str p := ho6
    subst ho6
    dsimp only at ha hb hA ⊢
    have hxp : W.people[i]? = some p ∧ own = W.first p := by
      have h : (fw W)[i]? = some (p, own) := hx
      unfold fw at h
      rw [List.getElem?_map] at h
      cases z : W.people[i]? with
      | none => rw [z] at h; cases h
      | some p2 =>
        rw [z] at h
        have h := Option.some.inj h
        have e1 : p2 = p := congrArg Prod.fst h
        have e2 : W.first p2 = own := congrArg Prod.snd h
        exact ⟨by rw [e1], by rw [← e2, e1]⟩
    obtain ⟨hxp, rfl⟩ := hxp
    have hp : p ∈ W.people := List.mem_of_getElem? hxp
    have hgp : dget tp p = some (kdP tp p) := kd_get (by rw [pt.kp]; exact hp)
    have hnone : badRow W tp tq p = true → none = lfit W tp tq := fun h => by
      unfold lfit
      rw [if_neg]
      rw [all_false (f := fun p => !badRow W tp tq p) hp (by rw [h]; rfl), Bool.false_and]
      exact Bool.false_ne_true
    refine st_asg (x := kindsP W tq p) (ev_mapL (u := tKd) (tgN tStr 9) (kdP tq) ev_var fun L q ω hq ho => ?_) fun v8 _ => ?_
    · have ho : ω = V.str q := ho
      subst ho
      exact ev_dget (k := q) ev_var ev_var (kd_get (by rw [pt.kq]; exact pre.wok.ff p hp q hq))
    refine st_if (et_and (et_test (ev_eqK (ev_dget (k := p) ev_var ev_var hgp) (ev_kd (k := .loose)))) fun _ => et_or (et_test (ev_neE (ev_lcL (u := tKd) (tgN tKd 10) (fun k => !decide (k = .tight)) id ev_var (fun L k ω hk ho => ?_) (fun L k ω hk ho _ => ?_)))) fun _ => et_test (ev_eqE ev_var)) (fun hb1 => ?_) (fun hb1 => ?_)
    · have ho : ω = Kd.v k := ho
      subst ho
      exact et_test (ev_neK ev_var (ev_kd (k := .tight)))
    · have ho : ω = Kd.v k := ho
      subst ho
      exact ev_var
    · rw [List.map_id] at hb1
      refine st_retF (y := none) (hret ret) ev_optN (hnone ?_)
      unfold badRow
      rw [hb1, Bool.true_or]
    rw [List.map_id] at hb1
    refine st_thru ?_
    refine st_if (et_or (et_and (et_test (ev_eqK (ev_dget (k := p) ev_var ev_var hgp) (ev_kd (k := .tight)))) fun _ => et_test (ev_ninK (k := Kd.loose) ev_kd ev_var)) fun _ => et_and (et_test (ev_eqK (ev_dget (k := p) ev_var ev_var hgp) (ev_kd (k := .paired)))) fun _ => et_test (ev_inK (k := Kd.loose) ev_kd ev_var)) (fun hb2 => ?_) (fun hb2 => ?_)
    · refine st_retF (y := none) (hret ret) ev_optN (hnone ?_)
      unfold badRow
      rw [hb2, Bool.or_true]
    refine st_thru ?_
    have hgood : badRow W tp tq p = false := by
      unfold badRow
      rw [hb1, hb2]
      rfl
    refine st_asgA (f := V.int) (x := a + pairP W tp p) (ev_add ev_varE (ev_b2n (ev_andV (ev_eqK (ev_dget (k := p) ev_var ev_var hgp) (ev_kd (k := .paired))) fun _ => ev_neE ev_var))) ?_
    refine st_asgA (f := V.int) (x := b + manyP W tp p) (ev_add ev_varE (ev_b2n (ev_andV (ev_neK (ev_dget (k := p) ev_var ev_var hgp) (ev_kd (k := .loose))) fun _ => ev_neE ev_var))) ?_
    refine st_turn rfl (a + pairP W tp p, b + manyP W tp p, some (.str p), some w7, some v8) ⟨?_, ?_, all_take_snoc hxp hA (by rw [hgood]; rfl)⟩ (fun _ _ => trivial)
    · rw [sum_take_snoc _ hxp, ha]
    · rw [sum_take_snoc _ hxp, hb]
  rintro L ⟨a, b, o6, o7, o8⟩ ⟨ha, hb, hA⟩
  dsimp only at ha hb hA ⊢
  have e0 : W.people.take (fw W).length = W.people := List.take_of_length_le (by unfold fw; rw [List.length_map]; exact Nat.le_refl _)
  rw [e0] at ha hb hA
  refine st_forL (tgP K tStr tInt 9 11) (fun i (γ : Int × Int × Option V × Option V × Option V × Option V) => γ.1 = a - ((W.places.take i).map (pairQ W tq)).sum ∧ γ.2.1 = b + ((W.places.take i).map (manyQ W tq)).sum ∧ (W.places.take i).all (fun q => !badSpot W tp tq q) = true) (fun _ => Asr.tt) (fun _ => [])
    (fun γ => [some v1, some v2, some v3, some vf, some (.int γ.1), some (.int γ.2.1), o6, o7, γ.2.2.1, γ.2.2.2.1, none, γ.2.2.2.2.1]) (ev_w2 ev_var) (a, b, o8, none, none, none) ⟨by simp, by simp, rfl⟩ (fun _ _ => trivial) ?_ ?_
  · rintro L i ⟨q, n⟩ ⟨w9, w11⟩ ⟨a2, b2, o8, o9, o11, o0⟩ hx ⟨ho9, ho11⟩ ⟨ha2, hb2, hA2⟩
    have ho9 : w9 = V.str q := ho9
    have ho11 : w11 = V.int n := ho11
    subst ho9 ho11
    dsimp only at ha2 hb2 hA2 ⊢
    have hxq : W.places[i]? = some q := by unfold Wo.places; rw [List.getElem?_map, hx]; rfl
    have hq : q ∈ W.places := List.mem_of_getElem? hxq
    have hn : n = W.hold q := by
      have := nd_mem pre.spots.nd (List.mem_of_getElem? hx)
      rw [(pre.spot hq).1] at this
      exact (Option.some.inj this).symm
    subst hn
    have hgq : dget tq q = some (kdP tq q) := kd_get (by rw [pt.kq]; exact hq)
    have hh := (pre.spot hq).2
    have hff : ∀ {p : Str}, p ∈ W.people → dget (fw W) p = some (W.first p) := fun {p} hp => by unfold fw; rw [dget_mapF, if_pos hp]
    have hkf : ∀ {p : Str} {x : List Str}, (p, x) ∈ fw W → p ∈ W.people := fun {p x} h => by
      have := mem_keys h
      unfold fw at this
      rwa [keys_mapF] at this
    refine st_lockAsg (st_asg (t := tLst K tKd) (x := kindsQ W tp q) (ev_is (ev_lcK (K := K) (u := tKd) (fun p => decide (q ∈ W.first p)) (kdP tp) evd_var (fun L p x hx => et_test (ev_inL (xs := W.first p) (k := q) ev_var (ev_dget (k := p) ev_var ev_var (hff (hkf hx))))) (fun L p x hx _ => ev_dget (k := p) ev_var ev_var (kd_get (by rw [pt.kp]; exact hkf hx)))) ?_) fun v8 _ => ?_)
    · show ((keys (fw W)).filter _).map _ = _
      unfold fw
      rw [keys_mapF]
      rfl
    refine st_if (et_and (et_test (ev_eqK (ev_dget (k := q) ev_var ev_var hgq) (ev_kd (k := .tight)))) fun _ => et_test (ev_ninK (k := Kd.loose) ev_kd ev_var)) (fun hb3 => ?_) (fun hb3 => ?_)
    · refine st_retF (y := none) ret ev_optN ?_
      show none = lfit W tp tq
      unfold lfit
      rw [if_neg]
      rw [all_false (f := fun q => !badSpot W tp tq q) hq (by unfold badSpot; rw [hb3]; rfl), Bool.and_false]
      exact Bool.false_ne_true
    refine st_thru ?_
    have cm : ∀ z : Int, CMul (W.hold q) z := fun z => .inl ⟨by omega, by omega⟩
    refine st_asgA (f := V.int) (x := a2 - pairQ W tq q) (ev_sub ev_varE (ev_mul ev_var (ev_b2n (ev_eqK (ev_dget (k := q) ev_var ev_var hgq) (ev_kd (k := .paired)))) (cm _))) ?_
    refine st_asgA (f := V.int) (x := b2 + manyQ W tq q) (ev_add ev_varE (ev_mul ev_var (ev_b2n (ev_eqK (ev_dget (k := q) ev_var ev_var hgq) (ev_kd (k := .tight)))) (cm _))) ?_
    refine st_turn rfl (a2 - pairQ W tq q, b2 + manyQ W tq q, some v8, some (.str q), some (.int (W.hold q)), none) ⟨?_, ?_, all_take_snoc hxq hA2 (by unfold badSpot; rw [hb3]; rfl)⟩ (fun _ _ => trivial)
    · show a2 - _ = _
      rw [sum_take_snoc _ hxq, ha2]
      omega
    · show b2 + _ = _
      rw [sum_take_snoc _ hxq, hb2]
      omega
  rintro L ⟨a2, b2, o8, o9, o11, o0⟩ ⟨ha2, hb2, hA2⟩
  dsimp only at ha2 hb2 hA2 ⊢
  have e0 : W.places.take W.spots.length = W.places := List.take_of_length_le (by unfold Wo.places; rw [List.length_map]; exact Nat.le_refl _)
  rw [e0] at ha2 hb2 hA2
  have hall : lfit W tp tq = if a2 = 0 then some b2 else none := by
    unfold lfit
    rw [hA, hA2, ha2, hb2, ha, hb]
    rfl
  refine st_if (et_test (ev_neI ev_varE ev_int)) (fun hb => ?_) (fun hb => ?_)
  · have hz : ¬ a2 = 0 := by simpa using hb
    refine st_retF (y := none) ret ev_optN ?_
    rw [hall, if_neg hz]
  · have hz : a2 = 0 := by simpa using hb
    refine st_thru (st_retF (y := some b2) ret (ev_optS ev_varE) ?_)
    rw [hall, if_pos hz]
abbrev s_law_papers_right : Stmt := top 75
abbrev N_law_papers_right : List Str := ["_law_world_here", "_law_kinds", "_law_thing", "_law_many_here", "_law_loose", "_law_name"]
theorem sc_law_papers_right : FnScope N_law_papers_right ["_law_world_here", "_law_kinds", "_law_thing", "_law_many_here"] (C8.fnScope s_law_papers_right) := ⟨rfl, rfl, rfl, by decide +kernel, rfl, by decide +kernel, by decide +kernel⟩
theorem ok_law_papers_right (T : Bi mg) (Dd : Dn K mg "_law_papers_right" s_law_papers_right ["_law_world_here", "_law_kinds", "_law_thing", "_law_many_here"]) (c__law_is_firsts : P_law_is_firsts P w K mg base) : P_law_papers_right P w K mg base := by
  refine cal4 Dd sc_law_papers_right fun f cdv A outer s H E hr => ?_
  have hu := hu_of hr
  refine ⟨_, (pss_cons (ps_lockM (ps_setLc (i := 4) (own := [("_law_name", 5)]) (g := gName 5) (by rfl) sc_law_papers_right.nd rfl rfl (sw_true rfl rfl rfl (by decide +kernel)) (pi_keys (pv 1)) (blkOk_by (own := [("_law_name", 5)]) (N := N_law_papers_right) (sc := C8.fnScope s_law_papers_right) (by decide +kernel)) (fun _ _ _ _ _ => (pg_name (i := 5) sc_law_papers_right.nd rfl (Or.inl rfl))) (fun _ _ _ _ _ => (pts_one (pt_cmpR op_eq (pe_dget hu (pv 1) (pv 5) (fun _ _ => rfl)) pe_str (nomark _)))) (fun _ _ _ _ _ => (pv 5)))) (
    pss_cons (ps_if ((pw_or (pt_not (pt_val (pe_callB (k_isi K) (by rfl) T.isi (by decide +kernel) (pa_cons (pv 2) (pa_cons (pe_bltn (v := .ty "dict") (u := .type "dict") (by rfl) T.dict (by decide +kernel) rfl) pa_nil))))) (pw_or (pt_cmpR op_ne (pe_callB (k_len K) (by rfl) T.len (by decide +kernel) (pa_cons (pv 2) pa_nil)) (pe_callB (k_len K) (by rfl) T.len (by decide +kernel) (pa_cons (pv 4) pa_nil)) (nomark _)) (pw_or1 (pt_cmpR (o_neEK K hr.units0) (pe_lc (own := [("_law_name", 5)]) (g := gName 5) (by rfl) sc_law_papers_right.nd (pi_list (pv 4)) (blkOk_by (own := [("_law_name", 5)]) (N := N_law_papers_right) (sc := C8.fnScope s_law_papers_right) (by decide +kernel)) (fun _ _ _ _ _ => (pg_name (i := 5) sc_law_papers_right.nd rfl (Or.inl rfl))) (fun _ _ _ _ _ => (pts_one (pt_cmp (pc_dnotin hu (pv 5) (pv 2)) rfl))) (fun _ _ _ _ _ => (pv 5))) (pe_lst pa_nil) (nomark _)))))).pt
    (pss_cons (ps_ret pe_bl) pss_nil)
    pss_nil) (
    pss_cons (ps_ret (pe_callB (k_all K rfl) (by rfl) T.all (by decide +kernel) (pa_cons (pe_lc (own := [("_law_name", 5)]) (g := gName 5) (tt := tYes) (by rfl) sc_law_papers_right.nd (pi_list (pv 4)) (blkOk_by (own := [("_law_name", 5)]) (N := N_law_papers_right) (sc := C8.fnScope s_law_papers_right) (by decide +kernel)) (fun _ _ _ _ _ => (pg_name (i := 5) sc_law_papers_right.nd rfl (Or.inl rfl))) (fun _ _ _ _ _ => pts_nil) (fun _ _ _ _ _ => (C8.pe_c c__law_is_firsts hr (by decide) (by rfl) (pa_cons (pv 0) (pa_cons (pe_dget hu (pv 2) (pv 5) (fun _ _ => rfl)) (pa_cons (pv 3) pa_nil)))))) pa_nil))) pss_nil))), ?_⟩
  rintro B D v1 v2 v3 v4 W tp pp m h1 h2 h3 rfl ⟨pre, hn, hk, hv⟩ ret -
  dsimp only at pre hn hk hv
  have hnp : (keys pp).Nodup := by
    rw [hk]
    exact hn.filter _
  refine st_lockAsg (st_asg (t := tLst K tStr) (x := looseK tp) (ev_is (ev_lcK (K := K) (u := tStr) (fun k => decide (kdP tp k = .loose)) id evd_var (fun L k x hx => et_test (ev_eqK (ev_dget (k := k) ev_var ev_var (kd_get (mem_keys hx))) (ev_kd (k := .loose)))) (fun L k x hx _ => ev_var)) (by rw [List.map_id]; rfl)) fun v4 _ => ?_)
  refine st_ifF (et_is (et_or (b := false) (et_not (et_B (ev_isi (b := true) ev_var ty_dct (by decide +kernel)))) fun _ => et_is (et_or (b := false) (et_is (et_test (ev_neI (ev_lenD ev_var) (ev_lenL ev_var))) (b' := false) ?_) fun _ => et_is (et_test (ev_neE (ev_is (ev_lcL (u := tStr) (tgN tStr 5) (fun _ => false) id ev_var (fun L k ω hkm ho => ?_) (fun L k ω hkm ho h => (nomatch h))) (x' := []) ?_))) rfl) rfl) rfl) (st_thru ?_)
  · rw [show (looseK tp).length = pp.length by rw [← hk, keys_len], decide_eq_true rfl]
    rfl
  · have ho : ω = V.str k := ho
    subst ho
    exact et_is (et_B (ev_dnin (k := k) ev_var ev_var)) (by rw [dget_isSome.mpr (by rw [hk]; exact hkm)]; rfl)
  · rw [List.filter_eq_nil_iff.mpr (by simp)]
    rfl
  refine st_retF ret (ev_is (ev_all (ev_mapL (u := tBool) (tgN tStr 5) (fun k => decide ((((dget pp k).getD []).length : Int) = m)) ev_var fun L k ω hkl ho => ?_)) (x' := lenAll m pp) ?_) rfl
  · have ho : ω = V.str k := ho
    subst ho
    obtain ⟨d, hd⟩ := Option.isSome_iff_exists.mp (dget_isSome.mpr (show k ∈ keys pp by rw [hk]; exact hkl))
    have va := hv _ (dget_mem hd)
    refine ev_is (ev_call (ea_cons ev_var (ea_cons (ev_dget (k := k) ev_var ev_var hd) (ea_cons ev_var ea_nil))) ⟨pre, va.gval pre⟩) ?_
    show (decide ((d.length : Int) = m) && isFirsts W d) = _
    rw [va.firsts, Bool.and_true, hd]
    rfl
  · unfold lenAll
    rw [all_keys hnp (fun _ d => decide ((d.length : Int) = m)) [], hk, List.all_map]
    rfl
abbrev s_law_sorts_right : Stmt := top 76
abbrev N_law_sorts_right : List Str := ["_law_world_here", "_law_told", "_law_paper_here", "_law_people", "_law_places", "_law_names_here", "_law_row", "_law_many_here", "_law_person", "_law_place"]
theorem sc_law_sorts_right : FnScope N_law_sorts_right ["_law_world_here", "_law_told", "_law_paper_here"] (C8.fnScope s_law_sorts_right) := ⟨rfl, rfl, rfl, by decide +kernel, rfl, by decide +kernel, by decide +kernel⟩
theorem ok_law_sorts_right (T : Bi mg) (Dd : Dn K mg "_law_sorts_right" s_law_sorts_right ["_law_world_here", "_law_told", "_law_paper_here"]) (c__law_told_of : P_law_told_of P w K mg base) (c__law_fit : P_law_fit P w K mg base) (c__law_is_firsts : P_law_is_firsts P w K mg base) (c__law_papers_right : P_law_papers_right P w K mg base) (c__law_has_room : P_law_has_room P w K mg base) : P_law_sorts_right P w K mg base := by
  refine cal3 Dd sc_law_sorts_right fun f cdv A outer s H E hr => ?_
  have hu := hu_of hr
  refine ⟨_, (pss_cons (ps_if ((pw_or (pt_not (pt_val (pe_callB (k_isi K) (by rfl) T.isi (by decide +kernel) (pa_cons (pv 1) (pa_cons (pe_bltn (v := .ty "tuple") (u := .type "tuple") (by rfl) T.tuple (by decide +kernel) rfl) pa_nil))))) (pw_or (pt_cmpR op_ne (pe_callB (k_len K) (by rfl) T.len (by decide +kernel) (pa_cons (pv 1) pa_nil)) pe_int (nomark _)) (pw_or (pt_not (pt_val (pe_callB (k_isi K) (by rfl) T.isi (by decide +kernel) (pa_cons (pv 2) (pa_cons (pe_bltn (v := .ty "tuple") (u := .type "tuple") (by rfl) T.tuple (by decide +kernel) rfl) pa_nil))))) (pw_or1 (pt_cmpR op_ne (pe_callB (k_len K) (by rfl) T.len (by decide +kernel) (pa_cons (pv 2) pa_nil)) pe_int (nomark _))))))).pt
    (pss_cons (ps_ret pe_bl) pss_nil)
    pss_nil) (
    pss_cons (ps_asg (pv 1) (pg_tup rfl (pgs_cons (pg_name (i := 3) sc_law_sorts_right.nd rfl (Or.inl rfl)) (pgs_cons (pg_name (i := 4) sc_law_sorts_right.nd rfl (Or.inl rfl)) pgs_nil)))) (
    pss_cons (ps_setLc (i := 5) (own := [("_law_row", 6)]) (g := gName 6) (tt := tYes) (by rfl) sc_law_sorts_right.nd rfl rfl (sw_true rfl rfl rfl (by decide +kernel)) (pi_list (pe_ix (ixL K) (pv 0) pe_int (fun _ _ => rfl))) (blkOk_by (own := [("_law_row", 6)]) (N := N_law_sorts_right) (sc := C8.fnScope s_law_sorts_right) (by decide +kernel)) (fun _ _ _ _ _ => (pg_name (i := 6) sc_law_sorts_right.nd rfl (Or.inl rfl))) (fun _ _ _ _ _ => pts_nil) (fun _ _ _ _ _ => (pe_ix (ixT K) (pv 6) pe_int (fun _ _ => rfl)))) (
    pss_cons (ps_if ((pw_or (pt_not (pt_val (C8.pe_c c__law_told_of hr (by decide) (by rfl) (pa_cons (pv 5) (pa_cons (pv 3) pa_nil))))) (pw_or1 (pt_not (pt_val (C8.pe_c c__law_told_of hr (by decide) (by rfl) (pa_cons (pe_lc (own := [("_law_row", 6)]) (g := gName 6) (tt := tYes) (by rfl) sc_law_sorts_right.nd (pi_list (pe_ix (ixL K) (pv 0) pe_int (fun _ _ => rfl))) (blkOk_by (own := [("_law_row", 6)]) (N := N_law_sorts_right) (sc := C8.fnScope s_law_sorts_right) (by decide +kernel)) (fun _ _ _ _ _ => (pg_name (i := 6) sc_law_sorts_right.nd rfl (Or.inl rfl))) (fun _ _ _ _ _ => pts_nil) (fun _ _ _ _ _ => (pe_ix (ixT K) (pv 6) pe_int (fun _ _ => rfl)))) (pa_cons (pv 4) pa_nil)))))))).pt
    (pss_cons (ps_ret pe_bl) pss_nil)
    pss_nil) (
    pss_cons (ps_set (i := 7) sc_law_sorts_right.nd rfl (Or.inl rfl) (C8.pe_c c__law_fit hr (by decide) (by rfl) (pa_cons (pv 0) (pa_cons (pv 3) (pa_cons (pv 4) pa_nil))))) (
    pss_cons (ps_if ((pw_or (pt_cmpR o_isN (pv 7) pe_non (nomark _)) (pw_or1 (pt_not (pt_val (C8.pe_c c__law_is_firsts hr (by decide) (by rfl) (pa_cons (pv 0) (pa_cons (pe_ix (ixT K) (pv 2) pe_int (fun _ _ => rfl)) (pa_cons (pv 7) pa_nil))))))))).pt
    (pss_cons (ps_ret pe_bl) pss_nil)
    pss_nil) (
    pss_cons (ps_if (pt_not (pt_val (C8.pe_c c__law_papers_right hr (by decide) (by rfl) (pa_cons (pv 0) (pa_cons (pv 3) (pa_cons (pe_ix (ixT K) (pv 2) pe_int (fun _ _ => rfl)) (pa_cons (pv 7) pa_nil)))))))
    (pss_cons (ps_ret pe_bl) pss_nil)
    pss_nil) (
    pss_cons (ps_if (pt_not (pt_val (C8.pe_c c__law_papers_right hr (by decide) (by rfl) (pa_cons (pv 0) (pa_cons (pv 4) (pa_cons (pe_ix (ixT K) (pv 2) pe_int (fun _ _ => rfl)) (pa_cons (pv 7) pa_nil)))))))
    (pss_cons (ps_ret pe_bl) pss_nil)
    pss_nil) (
    pss_cons (ps_if (pt_cmpR (o_neEK K hr.units0) (pe_lockM (pe_lc (own := [("_law_person", 8)]) (g := gName 8) (by rfl) sc_law_sorts_right.nd (pi_keys (pe_ix (ixT K) (pv 2) pe_int (fun _ _ => rfl))) (blkOk_by (own := [("_law_person", 8)]) (N := N_law_sorts_right) (sc := C8.fnScope s_law_sorts_right) (by decide +kernel)) (fun _ _ _ _ _ => (pg_name (i := 8) sc_law_sorts_right.nd rfl (Or.inl rfl))) (fun _ _ _ _ _ => (pts_one (pt_cmp (pc_din hu (pv 8) (pe_dget hu (pe_ix (ixT K) (pv 2) pe_int (fun _ _ => rfl)) (pv 8) (fun _ _ => rfl))) rfl))) (fun _ _ _ _ _ => (pv 8)))) (pe_lst pa_nil) (nomark _))
    (pss_cons (ps_ret pe_bl) pss_nil)
    pss_nil) (
    pss_cons (ps_ret (pe_cmpR (o_eqEK K hr.units0) (pe_lockM (pe_lc (own := [("_law_place", 9)]) (g := gName 9) (by rfl) sc_law_sorts_right.nd (pi_keys (pe_ix (ixT K) (pv 2) pe_int (fun _ _ => rfl))) (blkOk_by (own := [("_law_place", 9)]) (N := N_law_sorts_right) (sc := C8.fnScope s_law_sorts_right) (by decide +kernel)) (fun _ _ _ _ _ => (pg_name (i := 9) sc_law_sorts_right.nd rfl (Or.inl rfl))) (fun _ _ _ _ _ => (pts_one (pt_not (pt_val (C8.pe_c c__law_has_room hr (by decide) (by rfl) (pa_cons (pv 0) (pa_cons (pe_dget hu (pe_ix (ixT K) (pv 2) pe_int (fun _ _ => rfl)) (pv 9) (fun _ _ => rfl)) (pa_cons (pv 9) pa_nil)))))))) (fun _ _ _ _ _ => (pv 9)))) (pe_lst pa_nil) (nomark _))) pss_nil)))))))))), ?_⟩
  rintro B D v1 v2 v3 W ⟨tp, tq⟩ ⟨d0, pp, pq⟩ h1 h2 h3 ⟨pw, pre⟩ ret -
  have pw : PreW W := pw
  have pre : PreH W tp tq d0 pp pq := pre
  have ret : RetOk B tBool (fun y => y = lawB W tp tq d0 pp pq) D := ret
  have ok := pre.ok
  have hnp : (keys tp).Nodup := by rw [pre.kp]; exact ok.pn
  have hnq : (keys tq).Nodup := by rw [pre.kq]; exact ok.qn
  refine st_ifF (et_is (et_or (b := false) (et_not (et_B (ev_isi (b := true) ev_var ty_pair (by decide +kernel)))) fun _ => et_is (et_or (b := false) (et_is (et_test (ev_neI (ev_len2 ev_var) ev_int)) (b' := false) rfl) fun _ => et_is (et_or (b := false) (et_not (et_B (ev_isi (b := true) ev_var ty_trip (by decide +kernel)))) fun _ => et_is (et_test (ev_neI (ev_len3 ev_var) ev_int)) rfl) rfl) rfl) rfl) (st_thru ?_)
  refine st_asgG (tgP K (tDct tKd) (tDct tKd) 3 4) ev_var fun ω _ => ?_
  obtain ⟨w3, w4⟩ := ω
  refine st_asg (x := W.people) (ev_mapL (u := tStr) (tgN (tPair K tStr (tGrps K)) 6) (·.1) (ev_w1 ev_var) fun L r ω _ _ => ev_fst ev_var) fun v5 _ => ?_
  refine st_ifF (et_is (et_or (b := false) (et_not (et_B (ev_call (ea_cons ev_var (ea_cons ev_var ea_nil)) pre.kp))) fun _ => et_is (et_not (et_B (ev_call (ea_cons (ev_mapL (u := tStr) (tgN (tPair K tStr tInt) 6) (·.1) (ev_w2 ev_var) fun L r ω _ _ => ev_fst ev_var) (ea_cons ev_var ea_nil)) pre.kq))) rfl) rfl) (st_thru ?_)
  refine st_asgA (f := oV V.int) (x := lfit W tp tq) (ev_call (ea_cons ev_var (ea_cons ev_var (ea_cons ev_var ea_nil))) ⟨pw, pre.toPreT⟩) ?_
  cases hf : lfit W tp tq with
  | none =>
    refine st_ifT (et_is (et_or (b := false) (et_test (ev_isN (f := oV V.int) (x := none) (b := true) ev_varE rfl)) fun h => (nomatch h)) rfl) (st_retF ret ev_bl ?_)
    unfold lawB
    rw [hf]
  | some m =>
    have hall : lawB W tp tq d0 pp pq = (decide ((d0.length : Int) = m) && (lenAll m pp && (lenAll m pq && (pp.all (fun x => !(dget x.2 x.1).isSome) && pq.all fun x => decide ((cntV x.2 x.1 : Int) < W.hold x.1))))) := by
      unfold lawB
      rw [hf]
    refine st_if (et_is (et_or (et_test (ev_isN (f := oV V.int) (x := some m) (b := false) ev_varE rfl)) fun _ => et_not (et_B (ev_call (ea_cons ev_var (ea_cons (ev_p1 ev_var) (ea_cons (ev_varE (f := V.int) (x := m)) ea_nil))) ⟨pw, pre.v0.gval pw⟩))) (Bool.false_or _)) (fun hb => ?_) (fun hb => ?_)
    · refine st_retF ret ev_bl ?_
      have hb : (!(decide ((d0.length : Int) = m) && isFirsts W d0)) = true := hb
      rw [pre.v0.firsts, Bool.and_true, Bool.not_eq_true'] at hb
      rw [hall, hb, Bool.false_and]
    have hb : (!(decide ((d0.length : Int) = m) && isFirsts W d0)) = false := hb
    rw [pre.v0.firsts, Bool.and_true, Bool.not_eq_false'] at hb
    rw [hb, Bool.true_and] at hall
    refine st_thru ?_
    refine st_if (et_not (et_B (ev_call (ea_cons ev_var (ea_cons ev_var (ea_cons (ev_p2 ev_var) (ea_cons (ev_varE (f := V.int) (x := m)) ea_nil)))) ⟨pw, hnp, pre.kpp, pre.vp⟩))) (fun hb1 => ?_) (fun hb1 => ?_)
    · refine st_retF ret ev_bl ?_
      rw [Bool.not_eq_true'] at hb1
      rw [hall, show lenAll m pp = false from hb1, Bool.false_and]
    rw [Bool.not_eq_false'] at hb1
    rw [show lenAll m pp = true from hb1, Bool.true_and] at hall
    refine st_thru ?_
    refine st_if (et_not (et_B (ev_call (ea_cons ev_var (ea_cons ev_var (ea_cons (ev_p3 ev_var) (ea_cons (ev_varE (f := V.int) (x := m)) ea_nil)))) ⟨pw, hnq, pre.kpq, pre.vq⟩))) (fun hb2 => ?_) (fun hb2 => ?_)
    · refine st_retF ret ev_bl ?_
      rw [Bool.not_eq_true'] at hb2
      rw [hall, show lenAll m pq = false from hb2, Bool.false_and]
    rw [Bool.not_eq_false'] at hb2
    rw [show lenAll m pq = true from hb2, Bool.true_and] at hall
    refine st_thru ?_
    have hkp : (keys pp).Nodup := by rw [pre.kpp]; exact hnp.filter _
    have hkq : (keys pq).Nodup := by rw [pre.kpq]; exact hnq.filter _
    refine st_if (et_test (ev_neE (ev_lcK (K := K) (u := tStr) (fun k => (dget ((dget pp k).getD []) k).isSome) id evd_p2 (fun L k x hx => ?_) (fun L k x hx _ => ev_var)))) (fun hb3 => ?_) (fun hb3 => ?_)
    · have hg := nd_mem hkp hx
      refine et_is (et_B (ev_din (k := k) ev_var (ev_dget (k := k) (ev_p2 ev_var) ev_var hg))) ?_
      rw [hg]
      rfl
    · rw [List.map_id] at hb3
      refine st_retF ret ev_bl ?_
      rw [hall]
      have : pp.all (fun x => !(dget x.2 x.1).isSome) = false := by
        rw [all_keys hkp (fun k d => !(dget d k).isSome) []]
        rw [Bool.not_eq_true', List.isEmpty_eq_false_iff_exists_mem] at hb3
        obtain ⟨k, hk⟩ := hb3
        have hk := List.mem_filter (p := fun k => (dget ((dget pp k).getD []) k).isSome) |>.mp hk
        exact all_false hk.1 (by rw [hk.2]; rfl)
      rw [this, Bool.false_and]
    rw [List.map_id] at hb3
    have h3 : pp.all (fun x => !(dget x.2 x.1).isSome) = true := by
      rw [all_keys hkp (fun k d => !(dget d k).isSome) [], List.all_eq_true]
      intro k hk
      rw [Bool.not_eq_false', List.isEmpty_iff, List.filter_eq_nil_iff] at hb3
      have := hb3 k hk
      rw [Bool.not_eq_true] at this
      rw [this]
      rfl
    rw [h3, Bool.true_and] at hall
    refine st_thru ?_
    refine st_retF ret (ev_is (ev_eqE (ev_lcK (K := K) (u := tStr) (fun k => !decide ((cntV ((dget pq k).getD []) k : Int) < W.hold k)) id evd_p3 (fun L k x hx => ?_) (fun L k x hx _ => ev_var))) (x' := lawB W tp tq d0 pp pq) ?_) rfl
    · have hg := nd_mem hkq hx
      have hkm : k ∈ W.places := by
        have h := mem_keys hx
        rw [pre.kpq] at h
        rw [← pre.kq]
        exact (List.mem_filter.mp h).1
      refine et_is (et_not (et_B (ev_call (ea_cons ev_var (ea_cons (ev_dget (k := k) (ev_p3 ev_var) ev_var hg) (ea_cons ev_var ea_nil))) ⟨pw, hkm⟩))) ?_
      rw [hg]
      rfl
    · rw [List.map_id, hall, all_keys hkq (fun k d => decide ((cntV d k : Int) < W.hold k)) [], Bool.eq_iff_iff, List.isEmpty_iff, List.filter_eq_nil_iff, List.all_eq_true]
      constructor
      · intro h k hk
        have := h k hk
        rw [Bool.not_eq_true, Bool.not_eq_false'] at this
        exact this
      · intro h k hk
        rw [h k hk]
        exact Bool.false_ne_true
end
end G3
set_option maxRecDepth 100000
set_option maxHeartbeats 4000000
/-! LG: the law's papers, tellings, what is asked. -/
namespace G3
open PySem PySem.Spec PyProof.Rows L2
def lmany (W : Wo) (tp tq : List (Str × Kd)) : Int :=
  ((W.people.filter fun p => decide (kdP tp p = .tight) || (decide (kdP tp p = .paired) && !(W.first p).isEmpty)).length : Nat) + ((W.spots.filter fun r => decide (kdP tq r.1 = .tight)).map (·.2)).sum
def bestF (ds : List (List (Str × Str))) (m : Int) : List (Str × Str) := ((ds.filter fun d : List (Str × Str) => decide ((d.length : Int) = m)) ++ ds ++ [[]]).headD []
def paperP (tp : List (Str × Kd)) (ds : List (List (Str × Str))) (m : Int) : List (Str × List (Str × Str)) := (looseK tp).map fun n => (n, bestF (ds.filter fun d => !(dget d n).isSome) m)
def paperQ (W : Wo) (tq : List (Str × Kd)) (ds : List (List (Str × Str))) (m : Int) : List (Str × List (Str × Str)) := (looseK tq).map fun n => (n, bestF (ds.filter fun d => decide ((cntV d n : Int) < W.hold n)) m)
def tellStep (n : Str) (one : List (Str × Kd)) : List (List (Str × Kd)) := [Kd.loose, Kd.tight, Kd.paired].map fun k => dput one n k
def tellF (names : List Str) : List (List (Str × Kd)) := names.foldl (fun found n => found.flatMap (tellStep n)) [[]]
def askF (W : Wo) (tp tq : List (Str × Kd)) (ds : List (List (Str × Str))) : Option Bool :=
  let m := lmany W tp tq
  let h := holdB W tp tq (bestF ds m) (paperP tp ds m) (paperQ W tq ds m)
  if h = lawB W tp tq (bestF ds m) (paperP tp ds m) (paperQ W tq ds m) then some h else none
structure PreD (W : Wo) (ds : List (List (Str × Str))) : Prop where
  len : ds.length ≤ 100
  val : ∀ d ∈ ds, Val W d
section
variable (P : Program) (w : World) (K : PySem.W.Frag) (mg : Str → Option Value) (base : Heap) (C : Addr)
abbrev P_law_many : Prop := C8.Cal P w K mg base 2 "_law_many" (SpF (aCons (tWorld K) (aCons (tPair K (tDct tKd) (tDct tKd)) aNil)) (fun i => PreW i.1 ∧ PreT i.1 i.2.1.1 i.2.1.2) tInt fun i => lmany i.1 i.2.1.1 i.2.1.2) []
abbrev P_law_best : Prop := C8.Cal P w K mg base 1 "_law_best" (SpF (aCons (tLstF (tDct tStr)) (aCons tInt aNil)) (fun i => i.1.length ≤ 100) (tDct tStr) fun i => bestF i.1 i.2.1) []
abbrev P_law_paper : Prop := C8.Cal P w K mg base 3 "_law_paper" (SpF (aCons (tWorld K) (aCons (tPair K (tDct tKd) (tDct tKd)) (aCons (tLstF (tDct tStr)) aNil))) (fun i => PreW i.1 ∧ PreT i.1 i.2.1.1 i.2.1.2 ∧ i.2.2.1.length ≤ 100) (tTrip K (tDct tStr) (tDct (tDct tStr)) (tDct (tDct tStr)))
  fun i => (bestF i.2.2.1 (lmany i.1 i.2.1.1 i.2.1.2), paperP i.2.1.1 i.2.2.1 (lmany i.1 i.2.1.1 i.2.1.2), paperQ i.1 i.2.1.2 i.2.2.1 (lmany i.1 i.2.1.1 i.2.1.2))) []
abbrev P_law_tellings : Prop := C8.Cal P w K mg base 1 "_law_tellings" (SpF (aCons (tLst K tStr) aNil) (fun i => i.1.length ≤ 3) (tLst K (tDct tKd)) fun i => tellF i.1) []
abbrev P_law_asked : Prop := C8.Cal P w K mg base 12 "_law_asked" (SpF (aCons (tWorld K) (aCons (tHeld K C) (aCons (tPair K (tDct tKd) (tDct tKd)) (aCons (tLstF (tDct tStr)) aNil)))) (fun i => i.2.1 = i.1 ∧ PreW i.1 ∧ PreT i.1 i.2.2.1.1 i.2.2.1.2 ∧ PreD i.1 i.2.2.2.1) (tOpt V.bl) fun i => askF i.1 i.2.2.1.1 i.2.2.1.2 i.2.2.2.1) []
end
section
variable {M : Asr} {O : List (Addr × HO)} {σ : L2.St} {K : PySem.W.Frag} {α β : Type} {t : Ty α} {u : Ty β} {te ta tb : TE} {tr : TA}
theorem ev_toL {xs : List α} (h : Ev M O σ (tLstF t) ta xs) : Ev M O σ (tLst K t) ta xs := fun G H m l Q q => h G H m l Q fun v G' H' e ⟨a, vs, ev, h2, fa, z⟩ => q v G' H' e ⟨a, vs, ev, .of h2, fa, z⟩
theorem ev_lstF {xs : List α} (h : EvXs M O σ t tr xs) (hz : xs.length ≤ 1000) : Ev M O σ (tLstF t) (L2.tLst tr) xs := fun G H m l Q q => h G H m l _ fun vs G1 H1 e1 r1 => ⟨by rw [r1.length]; exact sz _ hz, fun p hp => by
  have x2 := Ext.new (o := .lst vs) e1.gh hp
  exact q _ _ _ (e1.trans x2) ⟨p, vs, rfl, upd_same, r1.imp fun _ _ => t.mono (x2.le e1.gh), by rw [r1.length]; exact sz _ hz⟩⟩
theorem le_lst {G H : Hp} (l : Le G H) {a : Addr} {vs : List V} (h : G a = some (.lst vs)) : H a = some (.lst vs) := by
  rcases l a _ h with h1 | ⟨_, _, e, _⟩
  · exact h1
  · cases e
theorem ev_catL {xs ys : List α} (ha : Ev M O σ (tLstF t) ta xs) (hb : Ev M O σ (tLstF t) tb ys) (hz : xs.length + ys.length ≤ 1000) : Ev M O σ (tLstF t) (tOp rCat ta tb) (xs ++ ys) :=
  ev_op2 ha hb fun G H v v' Q l ⟨a, vs, e, h, g, z⟩ ⟨a', vs', e', h', g', z'⟩ q => by
    subst e e'
    have l1 := g.length
    have l2 := g'.length
    refine ⟨a, a', vs, vs', rfl, rfl, le_lst l h, le_lst l h', by rw [l1, l2]; exact sz _ hz, fun p hp => ?_⟩
    have x2 := Ext.new (o := .lst (vs ++ vs')) l hp
    exact q _ _ _ x2 ⟨p, vs ++ vs', rfl, upd_same, (g.append g').imp fun _ _ => t.mono (x2.le l), by rw [List.length_append, l1, l2]; exact sz _ hz⟩
end
theorem best_mem {ds : List (List (Str × Str))} {m : Int} : bestF ds m ∈ ds ∨ bestF ds m = [] := by
  unfold bestF
  cases h : ds.filter fun d : List (Str × Str) => decide ((d.length : Int) = m) with
  | cons a r =>
    have hm : a ∈ ds.filter fun d : List (Str × Str) => decide ((d.length : Int) = m) := by rw [h]; simp
    exact .inl (List.mem_filter.mp hm).1
  | nil =>
    cases ds with
    | nil => exact .inr rfl
    | cons a r => exact .inl (List.mem_cons_self)
theorem val_nil {W : Wo} (ok : Wok W) : Val W [] := ⟨List.nodup_nil, fun x hx => absurd hx (by simp), fun q hq => by have := ok.ho q hq; simp; omega⟩
theorem best_val {W : Wo} (ok : Wok W) {ds : List (List (Str × Str))} {m : Int} (h : ∀ d ∈ ds, Val W d) : Val W (bestF ds m) := by
  rcases best_mem (ds := ds) (m := m) with z | z
  · exact h _ z
  · rw [z]
    exact val_nil ok
theorem preH_of {W : Wo} (pre : PreW W) {tp tq : List (Str × Kd)} (pt : PreT W tp tq) {ds : List (List (Str × Str))} (pd : PreD W ds) (m : Int) : PreH W tp tq (bestF ds m) (paperP tp ds m) (paperQ W tq ds m) :=
  { toPreT := pt, ok := pre.wok, v0 := best_val pre.wok pd.val, kpp := keys_mapF, kpq := keys_mapF,
    vp := fun x hx => by
      obtain ⟨n, _, e⟩ := List.mem_map.mp hx
      rw [← e]
      exact best_val pre.wok fun d hd => pd.val d (List.mem_filter.mp hd).1
    vq := fun x hx => by
      obtain ⟨n, _, e⟩ := List.mem_map.mp hx
      rw [← e]
      exact best_val pre.wok fun d hd => pd.val d (List.mem_filter.mp hd).1 }
theorem keys_at {α : Type} {xs : List (Str × α)} {i : Nat} {k : Str} {x : α} (h : xs[i]? = some (k, x)) : (keys xs)[i]? = some k := by
  unfold keys
  rw [List.getElem?_map, h]
  rfl
section
variable {P : Program} {w : World} {K : PySem.W.Frag} {mg : Str → Option Value} {base : Heap} {C : Addr}
abbrev s_law_many : Stmt := top 77
abbrev N_law_many : List Str := ["_law_world_here", "_law_told", "_law_firsts_here", "_law_people", "_law_one", "_law_place", "_law_many_here"]
theorem sc_law_many : FnScope N_law_many ["_law_world_here", "_law_told"] (C8.fnScope s_law_many) := ⟨rfl, rfl, rfl, by decide +kernel, rfl, by decide +kernel, by decide +kernel⟩
theorem ok_law_many (T : Bi mg) (Dd : Dn K mg "_law_many" s_law_many ["_law_world_here", "_law_told"]) (c__law_firsts : P_law_firsts P w K mg base) : P_law_many P w K mg base := by
  refine cal2 Dd sc_law_many fun f cdv A outer s H E hr => ?_
  have hu := hu_of hr
  refine ⟨_, (pss_cons (ps_set (i := 2) sc_law_many.nd rfl (Or.inr rfl) (C8.pe_c c__law_firsts hr (by decide) (by rfl) (pa_cons (pv 0) pa_nil))) (
    pss_cons (ps_lockM (ps_setLc (i := 3) (own := [("_law_one", 4)]) (g := gName 4) (by rfl) sc_law_many.nd rfl rfl (sw_true rfl rfl rfl (by decide +kernel)) (pi_keys (pv 2)) (blkOk_by (own := [("_law_one", 4)]) (N := N_law_many) (sc := C8.fnScope s_law_many) (by decide +kernel)) (fun _ _ _ _ _ => (pg_name (i := 4) sc_law_many.nd rfl (Or.inl rfl))) (fun _ _ _ _ _ => (pts_one ((pw_or (pt_cmpR op_eq (pe_dget hu (pe_ix (ixT K) (pv 1) pe_int (fun _ _ => rfl)) (pv 4) (fun _ _ => rfl)) pe_str (nomark _)) (pw_or1 ((pw_and (pt_cmpR op_eq (pe_dget hu (pe_ix (ixT K) (pv 1) pe_int (fun _ _ => rfl)) (pv 4) (fun _ _ => rfl)) pe_str (nomark _)) (pw_and1 (pt_cmpR (o_neEK K hr.units0) (pe_dget hu (pv 2) (pv 4) (fun _ _ => rfl)) (pe_lst pa_nil) (nomark _))))).pt))).pt)) (fun _ _ _ _ _ => (pv 4)))) (
    pss_cons (ps_ret (pe_op op_add (pe_callB (k_len K) (by rfl) T.len (by decide +kernel) (pa_cons (pv 3) pa_nil)) (pe_callB (k_sum K rfl) (by rfl) T.sum (by decide +kernel) (pa_cons (pe_lc (own := [("_law_place", 5), ("_law_many_here", 6)]) (g := gTup K 2 (gCons (gName 5) (gCons (gName 6) (gNil)))) (by rfl) sc_law_many.nd (pi_list (pe_ix (ixL K) (pv 0) pe_int (fun _ _ => rfl))) (blkOk_by (own := [("_law_place", 5), ("_law_many_here", 6)]) (N := N_law_many) (sc := C8.fnScope s_law_many) (by decide +kernel)) (fun _ _ _ _ _ => (pg_tup (by rfl) (pgs_cons (pg_name (i := 5) sc_law_many.nd rfl (Or.inl rfl)) (pgs_cons (pg_name (i := 6) sc_law_many.nd rfl (Or.inl rfl)) pgs_nil)))) (fun _ _ _ _ _ => (pts_one (pt_cmpR op_eq (pe_dget hu (pe_ix (ixT K) (pv 1) pe_int (fun _ _ => rfl)) (pv 5) (fun _ _ => rfl)) pe_str (nomark _)))) (fun _ _ _ _ _ => (pv 6))) pa_nil)))) pss_nil))), ?_⟩
  rintro B D v1 v2 W ⟨tp, tq⟩ h1 h2 ⟨pre, pt⟩ ret -
  have pre : PreW W := pre
  have pt : PreT W tp tq := pt
  refine st_asg (ev_call (ea_cons ev_var ea_nil) pre) fun vf _ => ?_
  have hkf : ∀ {p : Str} {x : List Str}, (p, x) ∈ fw W → p ∈ W.people := fun {p x} h => by
    have := mem_keys h
    unfold fw at this
    rwa [keys_mapF] at this
  refine st_lockAsg (st_asg (t := tLst K tStr) (x := W.people.filter fun p => decide (kdP tp p = .tight) || (decide (kdP tp p = .paired) && !(W.first p).isEmpty)) (ev_is (ev_lcK (K := K) (u := tStr) (fun p => decide (kdP tp p = .tight) || (decide (kdP tp p = .paired) && !(W.first p).isEmpty)) id evd_var (fun L p x hx => ?_) (fun L p x hx _ => ev_var)) ?_) fun v3 _ => ?_)
  · have hp := hkf hx
    have hgp : dget tp p = some (kdP tp p) := kd_get (by rw [pt.kp]; exact hp)
    exact et_or (et_test (ev_eqK (ev_dget (k := p) (ev_fst (p := (tp, tq)) ev_var) ev_var hgp) (ev_kd (k := .tight)))) fun _ => et_and (et_test (ev_eqK (ev_dget (k := p) (ev_fst (p := (tp, tq)) ev_var) ev_var hgp) (ev_kd (k := .paired)))) fun _ => et_test (ev_neE (ev_dget (k := p) (x := W.first p) ev_var ev_var (by unfold fw; rw [dget_mapF, if_pos hp])))
  · rw [List.map_id]
    show (keys (fw W)).filter _ = _
    unfold fw
    rw [keys_mapF]
  · refine st_retF ret (ev_add (ev_lenL ev_var) (ev_sum (ev_lcL (u := tInt) (tgP K tStr tInt 5 6) (fun r => decide (kdP tq r.1 = .tight)) (·.2) (ev_w2 ev_var) (fun L r ω hr ho => ?_) (fun L r ω hr ho _ => ?_)))) rfl
    · obtain ⟨q, n⟩ := r
      obtain ⟨w1, w2⟩ := ω
      obtain ⟨o1, o2⟩ := ho
      have o1 : w1 = V.str q := o1
      subst o1
      exact et_test (ev_eqK (ev_dget (k := q) (ev_snd (p := (tp, tq)) ev_var) ev_var (kd_get (by rw [pt.kq]; exact mem_keys hr))) (ev_kd (k := .tight)))
    · obtain ⟨q, n⟩ := r
      obtain ⟨w1, w2⟩ := ω
      obtain ⟨o1, o2⟩ := ho
      have o2 : w2 = V.int n := o2
      subst o2
      exact ev_var
abbrev s_law_best : Stmt := top 78
abbrev N_law_best : List Str := ["_law_some", "_law_many_here", "_law_right", "_law_one"]
theorem sc_law_best : FnScope N_law_best ["_law_some", "_law_many_here"] (C8.fnScope s_law_best) := ⟨rfl, rfl, rfl, by decide +kernel, rfl, by decide +kernel, by decide +kernel⟩
theorem ok_law_best (T : Bi mg) (Dd : Dn K mg "_law_best" s_law_best ["_law_some", "_law_many_here"]) : P_law_best P w K mg base := by
  refine cal2 Dd sc_law_best fun f cdv A outer s H E hr => ⟨_, (pss_cons (ps_setLc (i := 2) (own := [("_law_one", 3)]) (g := gName 3) (by rfl) sc_law_best.nd rfl rfl (sw_true rfl rfl rfl (by decide +kernel)) (pi_list (pv 0)) (blkOk_by (own := [("_law_one", 3)]) (N := N_law_best) (sc := C8.fnScope s_law_best) (by decide +kernel)) (fun _ _ _ _ _ => (pg_name (i := 3) sc_law_best.nd rfl (Or.inl rfl))) (fun _ _ _ _ _ => (pts_one (pt_cmpR op_eq (pe_callB (k_len K) (by rfl) T.len (by decide +kernel) (pa_cons (pv 3) pa_nil)) (pv 1) (nomark _)))) (fun _ _ _ _ _ => (pv 3))) (
    pss_cons (ps_ret (pe_ix (ixL K) (pe_op op_cat (pe_op op_cat (pv 2) (pv 0)) (pe_lst (pa_cons pe_dnewK pa_nil))) pe_int (fun _ _ => rfl))) pss_nil)), ?_⟩
  rintro B D v1 v2 ds m h1 rfl hl ret -
  have hl : ds.length ≤ 100 := hl
  have hfl := List.length_filter_le (fun d : List (Str × Str) => decide ((d.length : Int) = m)) ds
  refine st_asg (t := tLstF (tDct tStr)) (ev_is (ev_lcLF (u := tDct tStr) (tgN (tDct tStr) 3) (fun d => decide ((d.length : Int) = m)) id (ev_toL ev_var) (fun L d ω hd ho => et_test (ev_eqI (ev_lenD ev_var) ev_var)) (fun L d ω hd ho _ => ev_var)) (List.map_id _)) fun v3 _ => ?_
  have hcat : ∀ {M : Asr} {σ : L2.St} {v0 v3 : V}, σ[0]? = some (some v0) → σ[2]? = some (some v3) → Has M v0 (tLstF (tDct tStr)) ds → Has M v3 (tLstF (tDct tStr)) (ds.filter fun d : List (Str × Str) => decide ((d.length : Int) = m)) → Ev M [] σ (tLstF (tDct tStr)) (tOp rCat (tOp rCat (tVar 2) (tVar 0)) (L2.tLst (tCons tDNewK tNil))) ((ds.filter fun d : List (Str × Str) => decide ((d.length : Int) = m)) ++ ds ++ [[]]) := fun {M σ v0 v3} h0 h3 i0 i3 =>
    ev_catL (ev_catL (ev_var h3) (ev_var h0) (by omega)) (ev_lstF (exs_cons ev_nilD exs_nil) (by simp)) (by rw [List.length_append]; simp; omega)
  refine st_retF ret (ev_ixL (K := K) (i := 0) (x := bestF ds m) (ev_toL (hcat rfl rfl inferInstance inferInstance)) ev_int rfl ?_) rfl
  unfold bestF
  cases h : ((ds.filter fun d : List (Str × Str) => decide ((d.length : Int) = m)) ++ ds ++ [[]]) with
  | nil => simp at h
  | cons a r => rfl
abbrev s_law_paper : Stmt := top 79
abbrev N_law_paper : List Str := ["_law_world_here", "_law_told", "_law_dealings_here", "_law_many_here", "_law_people", "_law_name", "_law_one", "_law_places"]
theorem sc_law_paper : FnScope N_law_paper ["_law_world_here", "_law_told", "_law_dealings_here"] (C8.fnScope s_law_paper) := ⟨rfl, rfl, rfl, by decide +kernel, rfl, by decide +kernel, by decide +kernel⟩
theorem ok_law_paper (T : Bi mg) (Dd : Dn K mg "_law_paper" s_law_paper ["_law_world_here", "_law_told", "_law_dealings_here"]) (c__law_many : P_law_many P w K mg base) (c__law_best : P_law_best P w K mg base) (c__law_has_room : P_law_has_room P w K mg base) : P_law_paper P w K mg base := by
  refine cal3 Dd sc_law_paper fun f cdv A outer s H E hr => ?_
  have hu := hu_of hr
  refine ⟨_, (pss_cons (ps_set (i := 3) sc_law_paper.nd rfl (Or.inl rfl) (C8.pe_c c__law_many hr (by decide) (by rfl) (pa_cons (pv 0) (pa_cons (pv 1) pa_nil)))) (
    pss_cons (ps_set (i := 4) sc_law_paper.nd rfl (Or.inl rfl) pe_dnewK) (
    pss_cons (ps_lockM (ps_for PassesOwn.never rfl (pi_keys (pe_ix (ixT K) (pv 1) pe_int (fun _ _ => rfl))) (pg_name (i := 5) sc_law_paper.nd rfl (Or.inr rfl))
    (pss_cons (ps_if (pt_cmpR op_eq (pe_dget hu (pe_ix (ixT K) (pv 1) pe_int (fun _ _ => rfl)) (pv 5) (fun _ _ => rfl)) pe_str (nomark _))
      (pss_cons (ps_dput hu (pv 4) (pv 5) (C8.pe_c c__law_best hr (by decide) (by rfl) (pa_cons (pe_lc (own := [("_law_one", 6)]) (g := gName 6) (by rfl) sc_law_paper.nd (pi_list (pv 2)) (blkOk_by (own := [("_law_one", 6)]) (N := N_law_paper) (sc := C8.fnScope s_law_paper) (by decide +kernel)) (fun _ _ _ _ _ => (pg_name (i := 6) sc_law_paper.nd rfl (Or.inl rfl))) (fun _ _ _ _ _ => (pts_one (pt_cmp (pc_dnotin hu (pv 5) (pv 6)) rfl))) (fun _ _ _ _ _ => (pv 6))) (pa_cons (pv 3) pa_nil))) rfl) pss_nil)
      pss_nil) pss_nil))) (
    pss_cons (ps_set (i := 7) sc_law_paper.nd rfl (Or.inl rfl) pe_dnewK) (
    pss_cons (ps_lockM (ps_for PassesOwn.never rfl (pi_keys (pe_ix (ixT K) (pv 1) pe_int (fun _ _ => rfl))) (pg_name (i := 5) sc_law_paper.nd rfl (Or.inr rfl))
    (pss_cons (ps_if (pt_cmpR op_eq (pe_dget hu (pe_ix (ixT K) (pv 1) pe_int (fun _ _ => rfl)) (pv 5) (fun _ _ => rfl)) pe_str (nomark _))
      (pss_cons (ps_dput hu (pv 7) (pv 5) (C8.pe_c c__law_best hr (by decide) (by rfl) (pa_cons (pe_lc (own := [("_law_one", 6)]) (g := gName 6) (by rfl) sc_law_paper.nd (pi_list (pv 2)) (blkOk_by (own := [("_law_one", 6)]) (N := N_law_paper) (sc := C8.fnScope s_law_paper) (by decide +kernel)) (fun _ _ _ _ _ => (pg_name (i := 6) sc_law_paper.nd rfl (Or.inl rfl))) (fun _ _ _ _ _ => (pts_one (pt_val (C8.pe_c c__law_has_room hr (by decide) (by rfl) (pa_cons (pv 0) (pa_cons (pv 6) (pa_cons (pv 5) pa_nil))))))) (fun _ _ _ _ _ => (pv 6))) (pa_cons (pv 3) pa_nil))) rfl) pss_nil)
      pss_nil) pss_nil))) (
    pss_cons (ps_ret (pe_tup (pa_cons (C8.pe_c c__law_best hr (by decide) (by rfl) (pa_cons (pv 2) (pa_cons (pv 3) pa_nil))) (pa_cons (pv 4) (pa_cons (pv 7) pa_nil))))) pss_nil)))))), ?_⟩
  rintro B D v1 v2 v3 W ⟨tp, tq⟩ ds h1 h2 h3 ⟨pre, pt, hl⟩ ret -
  have pre : PreW W := pre
  have pt : PreT W tp tq := pt
  have hl : ds.length ≤ 100 := hl
  have ok := pre.wok
  have hlp : tp.length ≤ 10 := by rw [← keys_len, pt.kp]; exact ok.pl
  have hlq : tq.length ≤ 10 := by rw [← keys_len, pt.kq]; exact ok.ql
  have hnp : (keys tp).Nodup := by rw [pt.kp]; exact ok.pn
  have hnq : (keys tq).Nodup := by rw [pt.kq]; exact ok.qn
  have ret : RetOk B (tTrip K (tDct tStr) (tDct (tDct tStr)) (tDct (tDct tStr))) (fun y => y = (bestF ds (lmany W tp tq), paperP tp ds (lmany W tp tq), paperQ W tq ds (lmany W tp tq))) D := ret
  refine st_asgA (f := V.int) (x := lmany W tp tq) (ev_call (i := (W, (tp, tq), ())) (f := fun i : Wo × (List (Str × Kd) × List (Str × Kd)) × Unit => lmany i.1 i.2.1.1 i.2.1.2) (ea_cons ev_var (ea_cons ev_var ea_nil)) ⟨pre, pt⟩) ?_
  generalize hm : lmany W tp tq = m at ret ⊢
  refine st_newD fun pp => ?_
  refine st_forK (j := 5) (fun i (γ : Option V × List (Key × V) × List (Str × List (Str × Str))) => γ.2.2 = (((keys tp).take i).filter fun n => decide (kdP tp n = .loose)).map (fun n => (n, bestF (ds.filter fun d => !(dget d n).isSome) m)) ∧ γ.2.1.length ≤ i) (fun γ => kvsA (tDct tStr) γ.2.1 γ.2.2) (fun γ => [(pp, .dK γ.2.1)])
    (fun γ => [some v1, some v2, some v3, some (.int m), some (.ref pp), γ.1, none, none]) evd_fst (none, [], []) ⟨rfl, Nat.zero_le _⟩ (fun _ _ => .nil) ?_ ?_
  · rintro L B' D' hret i n x ⟨o5, kvs, xs⟩ hx ⟨hxs, hkl⟩
    dsimp only at hxs hkl ⊢
    have hi : i < tp.length := (List.getElem?_eq_some_iff.mp hx).1
    have hki := keys_at hx
    have hnk : n ∈ keys tp := List.mem_of_getElem? hki
    have e1 : (keys tp).take (i + 1) = (keys tp).take i ++ [n] := by rw [List.take_add_one, hki]; rfl
    have hnot : n ∉ keys xs := by
      rw [hxs, keys_mapF]
      intro z
      exact not_mem_take hnp hki (List.mem_filter.mp z).1
    have hfl := List.length_filter_le (fun d : List (Str × Str) => !(dget d n).isSome) ds
    refine st_if (et_test (ev_eqK (ev_dget (k := n) (ev_fst (p := (tp, tq)) ev_var) ev_var (kd_get hnk)) (ev_kd (k := .loose)))) (fun hb => ?_) (fun hb => ?_)
    · refine st_dput (t := tDct tStr) (x := bestF (ds.filter fun d => !(dget d n).isSome) m) (k := n) (j := 0) rfl (Nat.lt_of_le_of_lt (show kvs.length ≤ 10 by omega) (by decide)) (ev_call (ea_cons (t := tLstF (tDct tStr)) (x := ds.filter fun d => !(dget d n).isSome) (ev_is (ev_lcLF (u := tDct tStr) (tgN (tDct tStr) 6) (fun d => !(dget d n).isSome) id (ev_toL ev_var) (fun L d ω hd ho => et_B (ev_dnin (k := n) ev_var ev_var)) (fun L d ω hd ho _ => ev_var)) (List.map_id _)) (ea_cons ev_varE ea_nil)) (by show (ds.filter _).length ≤ 100; omega)) ev_var fun v hv => ?_
      refine st_thru (st_turn rfl (some (.str n), putK kvs (.inr n) v, xs ++ [(n, bestF (ds.filter fun d => !(dget d n).isSome) m)]) ⟨?_, Nat.le_trans (length_putK _ _ _) (Nat.succ_le_succ hkl)⟩ (fun G mm => ?_))
      · show xs ++ _ = _
        rw [e1, List.filter_append, List.map_append, hxs, List.filter_cons, if_pos hb]
        rfl
      · have := Fa.kput mm.1.2 n mm.2
        rw [dput_out hnot] at this
        exact this
    · refine st_thru (st_turn rfl (some (.str n), kvs, xs) ⟨?_, Nat.le_succ_of_le hkl⟩ (fun G mm => mm.2))
      show xs = _
      rw [e1, List.filter_append, List.map_append, hxs, List.filter_cons, if_neg (by rw [hb]; exact Bool.false_ne_true)]
      simp
  rintro L ⟨o5, kvs, xs⟩ ⟨hxs, hkl⟩
  dsimp only at hxs hkl ⊢
  rw [List.take_of_length_le (by rw [keys_len]; exact Nat.le_refl _)] at hxs
  have hxs : xs = paperP tp ds m := hxs
  subst hxs
  have hxl : (paperP tp ds m).length ≤ 1000 := by
    unfold paperP looseK
    rw [List.length_map]
    refine Nat.le_trans (List.length_filter_le _ _) ?_
    rw [keys_len]
    omega
  refine st_pub (x := paperP tp ds m) (t := tDct (tDct tStr)) (pub_dK hxl) ?_
  refine st_newD fun pq => ?_
  refine st_forK (j := 5) (fun i (γ : Option V × List (Key × V) × List (Str × List (Str × Str))) => γ.2.2 = (((keys tq).take i).filter fun n => decide (kdP tq n = .loose)).map (fun n => (n, bestF (ds.filter fun d => decide ((cntV d n : Int) < W.hold n)) m)) ∧ γ.2.1.length ≤ i) (fun γ => kvsA (tDct tStr) γ.2.1 γ.2.2) (fun γ => [(pq, .dK γ.2.1)])
    (fun γ => [some v1, some v2, some v3, some (.int m), some (.ref pp), γ.1, none, some (.ref pq)]) evd_snd (o5, [], []) ⟨rfl, Nat.zero_le _⟩ (fun _ _ => .nil) ?_ ?_
  · rintro L B' D' hret i n x ⟨o5, kvs, xs⟩ hx ⟨hxs, hkl⟩
    dsimp only at hxs hkl ⊢
    have hi : i < tq.length := (List.getElem?_eq_some_iff.mp hx).1
    have hki := keys_at hx
    have hnk : n ∈ keys tq := List.mem_of_getElem? hki
    have hnq2 : n ∈ W.places := by rw [← pt.kq]; exact hnk
    have e1 : (keys tq).take (i + 1) = (keys tq).take i ++ [n] := by rw [List.take_add_one, hki]; rfl
    have hnot : n ∉ keys xs := by
      rw [hxs, keys_mapF]
      intro z
      exact not_mem_take hnq hki (List.mem_filter.mp z).1
    have hfl := List.length_filter_le (fun d : List (Str × Str) => decide ((cntV d n : Int) < W.hold n)) ds
    refine st_if (et_test (ev_eqK (ev_dget (k := n) (ev_snd (p := (tp, tq)) ev_var) ev_var (kd_get hnk)) (ev_kd (k := .loose)))) (fun hb => ?_) (fun hb => ?_)
    · refine st_dput (t := tDct tStr) (x := bestF (ds.filter fun d => decide ((cntV d n : Int) < W.hold n)) m) (k := n) (j := 0) rfl (Nat.lt_of_le_of_lt (show kvs.length ≤ 10 by omega) (by decide)) (ev_call (ea_cons (t := tLstF (tDct tStr)) (x := ds.filter fun d => decide ((cntV d n : Int) < W.hold n)) (ev_is (ev_lcLF (u := tDct tStr) (tgN (tDct tStr) 6) (fun d => decide ((cntV d n : Int) < W.hold n)) id (ev_toL ev_var) (fun L d ω hd ho => et_B (ev_call (ea_cons ev_var (ea_cons ev_var (ea_cons ev_var ea_nil))) ⟨pre, hnq2⟩)) (fun L d ω hd ho _ => ev_var)) (List.map_id _)) (ea_cons ev_varE ea_nil)) (by show (ds.filter _).length ≤ 100; omega)) ev_var fun v hv => ?_
      refine st_thru (st_turn rfl (some (.str n), putK kvs (.inr n) v, xs ++ [(n, bestF (ds.filter fun d => decide ((cntV d n : Int) < W.hold n)) m)]) ⟨?_, Nat.le_trans (length_putK _ _ _) (Nat.succ_le_succ hkl)⟩ (fun G mm => ?_))
      · show xs ++ _ = _
        rw [e1, List.filter_append, List.map_append, hxs, List.filter_cons, if_pos hb]
        rfl
      · have := Fa.kput mm.1.2 n mm.2
        rw [dput_out hnot] at this
        exact this
    · refine st_thru (st_turn rfl (some (.str n), kvs, xs) ⟨?_, Nat.le_succ_of_le hkl⟩ (fun G mm => mm.2))
      show xs = _
      rw [e1, List.filter_append, List.map_append, hxs, List.filter_cons, if_neg (by rw [hb]; exact Bool.false_ne_true)]
      simp
  rintro L ⟨o5, kvs, xs⟩ ⟨hxs, hkl⟩
  dsimp only at hxs hkl ⊢
  rw [List.take_of_length_le (by rw [keys_len]; exact Nat.le_refl _)] at hxs
  have hxs : xs = paperQ W tq ds m := hxs
  subst hxs
  have hxl2 : (paperQ W tq ds m).length ≤ 1000 := by
    unfold paperQ looseK
    rw [List.length_map]
    refine Nat.le_trans (List.length_filter_le _ _) ?_
    rw [keys_len]
    omega
  refine st_pub (x := paperQ W tq ds m) (t := tDct (tDct tStr)) (pub_dK hxl2) ?_
  exact st_retF (y := (bestF ds m, paperP tp ds m, paperQ W tq ds m)) ret (ev_trip (ev_call (ea_cons ev_var (ea_cons ev_varE ea_nil)) hl) ev_var ev_var) rfl
end
end G3
set_option maxRecDepth 100000
set_option maxHeartbeats 4000000
/-! LH: the tellings, what is asked. -/
namespace G3
open PySem PySem.Spec PyProof.Rows L2
theorem tellStep_len (n : Str) (d : List (Str × Kd)) : (tellStep n d).length ≤ 3 := by
  unfold tellStep
  rw [List.length_map]
  exact Nat.le_refl _
theorem tellF_snoc {ns : List Str} {n : Str} : tellF (ns ++ [n]) = (tellF ns).flatMap (tellStep n) := by
  unfold tellF
  rw [List.foldl_append]
  rfl
section
variable {P : Program} {w : World} {K : PySem.W.Frag} {mg : Str → Option Value} {base : Heap} {C : Addr}
abbrev s_law_tellings : Stmt := top 80
abbrev N_law_tellings : List Str := ["_law_names_here", "_law_found", "_law_name", "_law_longer", "_law_one", "_law_word", "_law_more"]
theorem sc_law_tellings : FnScope N_law_tellings ["_law_names_here"] (C8.fnScope s_law_tellings) := ⟨rfl, rfl, rfl, by decide +kernel, rfl, by decide +kernel, by decide +kernel⟩
theorem ok_law_tellings (T : Bi mg) (Dd : Dn K mg "_law_tellings" s_law_tellings ["_law_names_here"]) : P_law_tellings P w K mg base := by
  refine cal1 Dd sc_law_tellings fun f cdv A outer s H E hr => ?_
  have hu := hu_of hr
  refine ⟨_, (pss_cons (ps_set (i := 1) sc_law_tellings.nd rfl (Or.inl rfl) (pe_lst (pa_cons pe_dnewK pa_nil))) (
    pss_cons (ps_for PassesOwn.never rfl (pi_list (pv 0)) (pg_name (i := 2) sc_law_tellings.nd rfl (Or.inl rfl))
    (pss_cons (ps_set (i := 3) sc_law_tellings.nd rfl (Or.inl rfl) (pe_lst pa_nil)) (
      pss_cons (ps_for PassesOwn.never rfl (pi_list (pv 1)) (pg_name (i := 4) sc_law_tellings.nd rfl (Or.inl rfl))
      (pss_cons (ps_for PassesOwn.never rfl (pi_list (pe_lst (pa_cons pe_str (pa_cons pe_str (pa_cons pe_str pa_nil))))) (pg_name (i := 5) sc_law_tellings.nd rfl (Or.inl rfl))
        (pss_cons (ps_set (i := 6) sc_law_tellings.nd rfl (Or.inl rfl) (pe_callTy c_dictD (by rfl) T.dict (by decide +kernel) (pa_cons (pv 4) pa_nil))) (
          pss_cons (ps_dput hu (pv 6) (pv 2) (pv 5) rfl) (
          pss_cons (ps_expr (k_bm K rfl PySem.F.plainAttrs_list PySem.F.slot_list_append PySem.F.type_list_append mt_append (pv 3) (pa_cons (pv 6) pa_nil))) pss_nil)))) pss_nil)) (
      pss_cons (ps_set (i := 1) sc_law_tellings.nd rfl (Or.inl rfl) (pv 3)) pss_nil)))) (
    pss_cons (ps_ret (pv 1)) pss_nil))), ?_⟩
  rintro B D v1 ns h1 hls ret u1
  have hls : ns.length ≤ 3 := hls
  refine st_asg (t := tLst K (tDct tKd)) (x := [[]]) (ev_lst (exs_cons ev_nilD exs_nil)) fun vf0 _ => ?_
  refine st_forL (tgN tStr 2) (fun i (γ : V × List (List (Str × Kd)) × Option V × Option V × Option V × Option V × Option V) => γ.2.1 = tellF (ns.take i) ∧ γ.2.1.length ≤ 3 ^ i ∧ ∀ d ∈ γ.2.1, d.length ≤ i) (fun γ => Asr.tt.is (tLst K (tDct tKd)) γ.1 γ.2.1) (fun _ => [])
    (fun γ => [some v1, some γ.1, γ.2.2.1, γ.2.2.2.1, γ.2.2.2.2.1, γ.2.2.2.2.2.1, γ.2.2.2.2.2.2]) ev_var (vf0, [[]], none, none, none, none, none) ⟨rfl, Nat.le_refl _, fun d hd => by rw [List.mem_singleton.mp hd]; exact Nat.zero_le _⟩ (fun G m => ⟨trivial, m.2⟩) ?_ ?_
  · rintro L i n ω ⟨vf, ds, o2, o3, o4, o5, o6⟩ hx ho ⟨hds, hdl, hdi⟩
    have ho : ω = V.str n := ho
    subst ho
    dsimp only at hds hdl hdi ⊢
    have hi : i < 3 := Nat.lt_of_lt_of_le (List.getElem?_eq_some_iff.mp hx).1 hls
    have e1 : ns.take (i + 1) = ns.take i ++ [n] := by rw [List.take_add_one, hx]; rfl
    have hdl2 : ds.length ≤ 9 := by
      have : i = 0 ∨ i = 1 ∨ i = 2 := by omega
      rcases this with h | h | h <;> (rw [h] at hdl; omega)
    refine st_newL fun pl => ?_
    refine st_forL (tgN (tDct tKd) 4) (fun j (γ : Option V × Option V × Option V × List V × List (List (Str × Kd))) => γ.2.2.2.2 = (ds.take j).flatMap (tellStep n) ∧ γ.2.2.2.1.length = γ.2.2.2.2.length) (fun γ => itsA (tDct tKd) γ.2.2.2.1 γ.2.2.2.2) (fun γ => [(pl, .lst γ.2.2.2.1)])
      (fun γ => [some v1, some vf, some (.str n), some (.ref pl), γ.1, γ.2.1, γ.2.2.1]) ev_var (o4, o5, o6, [], []) ⟨rfl, rfl⟩ (fun _ _ => .nil) ?_ ?_
    · rintro L2 j d w5 ⟨o4, o5, o6, vs, ys⟩ hx2 ho2 ⟨hys, hvs⟩
      dsimp only at hys hvs ⊢
      have hdd : d.length ≤ i := hdi d (List.mem_of_getElem? hx2)
      have hj : j < ds.length := (List.getElem?_eq_some_iff.mp hx2).1
      have e2 : (ds.take (j + 1)).flatMap (tellStep n) = (ds.take j).flatMap (tellStep n) ++ tellStep n d := by rw [List.take_add_one, hx2, List.flatMap_append]; simp
      have hyl : ys.length ≤ 27 := by
        have := flat_len (tellStep_len n) (ds.take j)
        rw [← hys, List.length_take] at this
        omega
      refine st_forL (tgN tKd 5) (fun k (γ : Option V × Option V × List V × List (List (Str × Kd))) => γ.2.2.2 = ys ++ ([Kd.loose, Kd.tight, Kd.paired].take k).map (fun k => dput d n k) ∧ γ.2.2.1.length = γ.2.2.2.length ∧ γ.2.2.2.length ≤ 27 + k) (fun γ => itsA (tDct tKd) γ.2.2.1 γ.2.2.2) (fun γ => [(pl, .lst γ.2.2.1)])
        (fun γ => [some v1, some vf, some (.str n), some (.ref pl), some w5, γ.1, γ.2.1]) (ev_lst (exs_cons (ev_kd (k := .loose)) (exs_cons (ev_kd (k := .tight)) (exs_cons (ev_kd (k := .paired)) exs_nil)))) (o5, o6, vs, ys) ⟨by simp, hvs, hyl⟩ (fun G m => m.1.2) ?_ ?_
      · rintro L3 k q ω ⟨o5, o6, vs2, ys2⟩ hx3 ho3 ⟨hy2, hv2, hl2⟩
        have ho3 : ω = q.v := ho3
        subst ho3
        dsimp only at hy2 hv2 hl2 ⊢
        have hk : k < 3 := (List.getElem?_eq_some_iff.mp hx3).1
        have e3 : [Kd.loose, Kd.tight, Kd.paired].take (k + 1) = [Kd.loose, Kd.tight, Kd.paired].take k ++ [q] := by rw [List.take_add_one, hx3]; rfl
        refine st_copyDA (f := Kd.v) (xs := d) ev_var fun pm _ => ?_
        refine st_dputA (f := Kd.v) (xs := d) (k := n) (x := q) (j := 0) rfl (Nat.lt_of_le_of_lt (show d.length ≤ 3 by omega) (by decide)) ev_var ev_var ?_
        have hml := dput_len d n q
        refine st_pub (pub_dA (f := Kd.v) (xs := dput d n q) (by omega)) ?_
        refine st_app (t := tDct tKd) (x := dput d n q) (j := 0) rfl (Nat.lt_of_le_of_lt (show vs2.length ≤ 30 by omega) (by decide)) ev_var fun vm _ => ?_
        refine st_turn rfl (some q.v, some (.ref pm), vs2 ++ [vm], ys2 ++ [dput d n q]) ⟨?_, ?_, ?_⟩ (fun G m => m.1.1.1.2.append (.cons m.2 .nil))
        · show ys2 ++ [dput d n q] = _
          rw [e3, List.map_append, hy2]
          simp
        · show (vs2 ++ [vm]).length = (ys2 ++ [dput d n q]).length
          rw [List.length_append, List.length_append, hv2]
          rfl
        · show (ys2 ++ [dput d n q]).length ≤ _
          rw [List.length_append]
          show ys2.length + 1 ≤ _
          omega
      · rintro L3 ⟨o5, o6, vs2, ys2⟩ ⟨hy2, hv2, hl2⟩
        dsimp only at hy2 hv2 hl2 ⊢
        refine st_turn rfl (some w5, o5, o6, vs2, ys2) ⟨?_, hv2⟩ (fun G m => m.2)
        show ys2 = _
        rw [e2, ← hys, hy2]
        rfl
    · rintro L2 ⟨o4, o5, o6, vs, ys⟩ ⟨hys, hvs⟩
      dsimp only at hys hvs ⊢
      rw [List.take_of_length_le (Nat.le_refl _)] at hys
      have hyl := flat_len (tellStep_len n) ds
      rw [← hys] at hyl
      refine st_pub (x := ys) (t := tLst K (tDct tKd)) (pub_lK (by omega)) ?_
      refine st_asg (t := tLst K (tDct tKd)) (x := ys) ev_var fun vn _ => ?_
      refine st_turn rfl (vn, ys, some (.str n), some (.ref pl), o4, o5, o6) ⟨?_, ?_, fun e he => ?_⟩ (fun G m => ⟨trivial, m.2⟩)
      · show ys = _
        rw [e1, tellF_snoc, ← hds, hys]
      · show ys.length ≤ 3 ^ (i + 1)
        rw [Nat.pow_succ]
        omega
      · have he : e ∈ ys := he
        rw [hys] at he
        obtain ⟨d, hd, h2⟩ := List.mem_flatMap.mp he
        unfold tellStep at h2
        obtain ⟨k, _, e2⟩ := List.mem_map.mp h2
        have := dput_len d n k
        have := hdi d hd
        rw [← e2]
        omega
  · rintro L ⟨vf, ds, o2, o3, o4, o5, o6⟩ ⟨hds, hdl, hdi⟩
    dsimp only at hds hdl hdi ⊢
    rw [List.take_of_length_le (Nat.le_refl _)] at hds
    exact st_retF ret ev_var hds
abbrev s_law_asked : Stmt := top 81
abbrev N_law_asked : List Str := ["_law_world_here", "_law_lists_here", "_law_told", "_law_dealings_here", "_law_paper_here", "_law_found"]
theorem sc_law_asked : FnScope N_law_asked ["_law_world_here", "_law_lists_here", "_law_told", "_law_dealings_here"] (C8.fnScope s_law_asked) := ⟨rfl, rfl, rfl, by decide +kernel, rfl, by decide +kernel, by decide +kernel⟩
theorem ok_law_asked (T : Bi mg) (Dd : Dn K mg "_law_asked" s_law_asked ["_law_world_here", "_law_lists_here", "_law_told", "_law_dealings_here"]) (c__law_paper : P_law_paper P w K mg base) (c_sorts_hold : P_sorts_hold P w K mg base C) (c__law_sorts_right : P_law_sorts_right P w K mg base) : P_law_asked P w K mg base C := by
  refine cal4 Dd sc_law_asked fun f cdv A outer s H E hr => ⟨_, (pss_cons (ps_set (i := 4) sc_law_asked.nd rfl (Or.inl rfl) (C8.pe_c c__law_paper hr (by decide) (by rfl) (pa_cons (pv 0) (pa_cons (pv 2) (pa_cons (pv 3) pa_nil))))) (
    pss_cons (ps_set (i := 5) sc_law_asked.nd rfl (Or.inl rfl) (C8.pe_c c_sorts_hold hr (by decide) (by rfl) (pa_cons (pv 1) (pa_cons (pv 2) (pa_cons (pv 4) pa_nil))))) (
    pss_cons (ps_if ((pw_or (pt_not (pt_val (pe_callB (k_isi K) (by rfl) T.isi (by decide +kernel) (pa_cons (pv 5) (pa_cons (pe_bltn (v := .ty "bool") (u := .type "bool") (by rfl) T.bool (by decide +kernel) rfl) pa_nil))))) (pw_or1 (pt_cmpR op_ne (pv 5) (C8.pe_c c__law_sorts_right hr (by decide) (by rfl) (pa_cons (pv 0) (pa_cons (pv 2) (pa_cons (pv 4) pa_nil)))) (nomark _))))).pt
    (pss_cons (ps_ret pe_non) pss_nil)
    pss_nil) (
    pss_cons (ps_ret (pv 5)) pss_nil)))), ?_⟩
  rintro B D v1 v2 v3 v4 W W2 ⟨tp, tq⟩ ds h1 h2 h3 h4 ⟨hw, pre, pt, pd⟩ ret u1
  have hw : W2 = W := hw
  subst hw
  have pre : PreW W2 := pre
  have pt : PreT W2 tp tq := pt
  have pd : PreD W2 ds := pd
  have ret : RetOk B (tOpt V.bl) (fun y => y = askF W2 tp tq ds) D := ret
  refine st_asg (x := (bestF ds (lmany W2 tp tq), paperP tp ds (lmany W2 tp tq), paperQ W2 tq ds (lmany W2 tp tq))) (ev_call (i := (W2, (tp, tq), ds, ())) (ea_cons ev_var (ea_cons ev_var (ea_cons ev_var ea_nil))) ⟨pre, pt, pd.len⟩) fun v5 _ => ?_
  have ph := preH_of pre pt pd (lmany W2 tp tq)
  refine st_asgA (f := V.bl) (x := holdB W2 tp tq (bestF ds (lmany W2 tp tq)) (paperP tp ds (lmany W2 tp tq)) (paperQ W2 tq ds (lmany W2 tp tq))) (ev_call (i := (W2, (tp, tq), (bestF ds (lmany W2 tp tq), paperP tp ds (lmany W2 tp tq), paperQ W2 tq ds (lmany W2 tp tq)), ())) (f := fun i : Wo × (List (Str × Kd) × List (Str × Kd)) × (List (Str × Str) × List (Str × List (Str × Str)) × List (Str × List (Str × Str))) × Unit => holdB i.1 i.2.1.1 i.2.1.2 i.2.2.1.1 i.2.2.1.2.1 i.2.2.1.2.2) (ea_cons ev_var (ea_cons ev_var (ea_cons ev_var ea_nil))) ph) ?_
  generalize hh : holdB W2 tp tq (bestF ds (lmany W2 tp tq)) (paperP tp ds (lmany W2 tp tq)) (paperQ W2 tq ds (lmany W2 tp tq)) = h
  generalize hg : lawB W2 tp tq (bestF ds (lmany W2 tp tq)) (paperP tp ds (lmany W2 tp tq)) (paperQ W2 tq ds (lmany W2 tp tq)) = g
  refine st_if (b := !decide (h = g)) (et_is (et_or (a := false) (et_is (et_not (et_B (ev_isi (b := true) (ev_varE (f := V.bl) (x := h)) ty_bool (by decide +kernel)))) rfl) fun _ => et_test (ev_neA (f := V.bl) (g := V.bl) (ev_varE (x := h)) (ev_call (i := (W2, (tp, tq), (bestF ds (lmany W2 tp tq), paperP tp ds (lmany W2 tp tq), paperQ W2 tq ds (lmany W2 tp tq)), ())) (f := fun i : Wo × (List (Str × Kd) × List (Str × Kd)) × (List (Str × Str) × List (Str × List (Str × Str)) × List (Str × List (Str × Str))) × Unit => lawB i.1 i.2.1.1 i.2.1.2 i.2.2.1.1 i.2.2.1.2.1 i.2.2.1.2.2) (ea_cons ev_var (ea_cons ev_var (ea_cons ev_var ea_nil))) ⟨pre, ph⟩) rfl)) ?_) (fun hb => ?_) (fun hb => ?_)
  · rw [hg]
    cases h <;> cases g <;> rfl
  · have hb : h ≠ g := by simpa using hb
    exact st_retF ret ev_optN (by show none = askF W2 tp tq ds; unfold askF; simp only [hh, hg, if_neg hb])
  · have hb : h = g := by simpa using hb
    exact st_thru (st_retF ret (ev_optS (ev_varE (f := V.bl) (x := h))) (by show some h = askF W2 tp tq ds; unfold askF; simp only [hh, hg, if_pos hb]))
end
end G3
set_option maxRecDepth 100000
set_option maxHeartbeats 4000000
/-! G22: == of lists of pairs of dicts. -/
namespace G3
open PySem PySem.Spec PyProof.Rows L2
section
variable {X : L2.Cx} {pins : List (Addr × Obj)} {σ : L2.St} {H : Hp} {s : Shared}
theorem rd_ok (I : L2.Inv X pins σ H s) {a : Addr} {ks : List (Key × V)} (h : Rd H a (.dK ks)) : L2.ObjOk X.prog X.w H s.heap a (.dK ks) :=
  h.elim (fun h => I.hok a _ h) fun ⟨o, h⟩ => (show L2.ObjOk X.prog X.w H s.heap a (.frz o (.dK ks)) from I.hok a _ h).2
def DDct : L2.Eqv := fun x y H => ∃ a b ks ls, x = .ref a ∧ y = .ref b ∧ Rd H a (.dK ks) ∧ Rd H b (.dK ls) ∧ ks.length = ls.length ∧ ∀ p ∈ ks, valV ls p.1 = some p.2 ∧ flatB p.2 = true
theorem mon_dct : L2.Mon DDct := fun x y H H' e ⟨a, b, ks, ls, h1, h2, h3, h4, h5⟩ =>
  ⟨a, b, ks, ls, h1, h2, h3.elim (fun h => .inl (e _ _ h)) (fun ⟨o, h⟩ => .inr ⟨o, e _ _ h⟩), h4.elim (fun h => .inl (e _ _ h)) (fun ⟨o, h⟩ => .inr ⟨o, e _ _ h⟩), h5⟩
theorem rcG_dct : L2.RcG X 1 DDct := by
  intro A pins s σ H x y u v sb I rx ry d
  obtain ⟨a, b, ks, ls, rfl, rfl, ha, hb, hl, hp⟩ := d
  cases (show u = Value.ref a from rx)
  cases (show v = Value.ref b from ry)
  obtain ⟨_, ya, va, ra, da⟩ := rd_ok I ha
  obtain ⟨_, yb, vb, rb, db⟩ := rd_ok I hb
  refine PySem.W.rcP_dicts (knd := mixKind X.prog X.w) (r := true) ya yb da db sb.room.units0 (fun _ => hits_run (F := fun x y => x = y ∧ flatB x = true) (fun x y v u h r1 r2 => by
    obtain ⟨rfl, f⟩ := h
    exact (eqAt_same r1 r2 f).eqP) rb ra fun p hm => ⟨p.2, (hp p hm).1, rfl, (hp p hm).2⟩) _ _ ?_
  have e : va.length = vb.length := by rw [← ra.length, ← rb.length]; exact hl
  rw [show (va.length == vb.length && true) = true from by rw [e]; simp]
  exact ⟨rfl, H, I, L2.Ext.rfl'⟩
def DGood (K : PySem.W.Frag) : L2.Eqv := L2.DList (L2.DTup K DDct)
theorem rcG_good : L2.RcG X 3 (DGood X.K) := L2.rcG_list (L2.mon_tup mon_dct) (L2.eqG_tup mon_dct (rcG_dct.eqG fun _ _ _ d => let ⟨a, b, _, _, hx, hy, _⟩ := d; ⟨a, b, hx, hy⟩))
def rEqGood (K : PySem.W.Frag) : R2 := L2.rEqG (DGood K)
theorem op_eqGood (hr : L2.Room 3 X.A) : OpR X (compareOp .Eq) (rEqGood X.K) := L2.op_eqG rcG_good hr
end
section
variable {M : Asr} {O : List (Addr × HO)} {σ : L2.St} {K : PySem.W.Frag} {α β : Type} {te ta tb : TE}
theorem valV_self {f : α → V} {xs : List (Str × α)} (nd : (keys xs).Nodup) : ∀ p ∈ akv f xs, valV (akv f xs) p.1 = some p.2 := by
  intro p hp
  unfold akv at hp
  obtain ⟨⟨k, x⟩, hm, e⟩ := List.mem_map.mp hp
  subst e
  obtain ⟨v, e, r⟩ := ((Fa.akv (f := f) (G := fun _ => none) xs).kget k).1 x (nd_mem nd hm)
  have r : v = f x := r
  rw [e, r]
theorem dct_good {f : α → V} (hf : ∀ x, flatB (f x) = true) {G H : Hp} (l : Le G H) {v v' : V} {xs : List (Str × α)} (nd : (keys xs).Nodup) (h : (tDct (aty f)).r G v xs) (h' : (tDct (aty f)).r G v' xs) : DDct v v' H := by
  obtain ⟨a, kvs, e, h, g, z⟩ := h
  obtain ⟨b, kvs', e', h', g', z'⟩ := h'
  have e1 := akv_of g
  have e2 := akv_of g'
  subst e e' e1 e2
  refine ⟨a, b, _, _, rfl, rfl, l.rd h, l.rd h', rfl, fun p hp => ⟨valV_self nd p hp, ?_⟩⟩
  unfold akv at hp
  obtain ⟨⟨k, x⟩, hm, e⟩ := List.mem_map.mp hp
  subst e
  exact hf x
theorem prs_good {f : α → V} {g : β → V} (hf : ∀ x, flatB (f x) = true) (hg : ∀ x, flatB (g x) = true) {G H : Hp} (l : Le G H) {vs : List V} {xs : List (List (Str × α) × List (Str × β))} (h : Fa ((tPair K (tDct (aty f)) (tDct (aty g))).r G) vs xs) :
    ∀ {ws : List V}, (∀ x ∈ xs, (keys x.1).Nodup ∧ (keys x.2).Nodup) → Fa ((tPair K (tDct (aty f)) (tDct (aty g))).r G) ws xs → L2.Prs (L2.DTup K DDct) vs ws H := by
  induction h with
  | nil =>
    intro ws _ h
    cases h
    exact L2.Prs.nil
  | cons h1 _ ih =>
    intro ws nd h
    cases h with
    | cons h2 t2 =>
      refine L2.Prs.cons ?_ (ih (fun x hx => nd x (List.mem_cons_of_mem _ hx)) t2)
      obtain ⟨a, v1, v2, e, h, r1, r2⟩ := h1
      obtain ⟨a', v1', v2', e', h', r1', r2'⟩ := h2
      obtain ⟨n1, n2⟩ := nd _ List.mem_cons_self
      exact ⟨a, a', _, _, e, e', l.sqT h, l.sqT h', L2.Prs.cons (dct_good hf l n1 r1 r1') (L2.Prs.cons (dct_good hg l n2 r2 r2') L2.Prs.nil)⟩
theorem ev_eqGood {xs : List (List (Str × α) × List (Str × β))} {f : α → V} {g : β → V} (hf : ∀ x, flatB (f x) = true) (hg : ∀ x, flatB (g x) = true) (nd : ∀ x ∈ xs, (keys x.1).Nodup ∧ (keys x.2).Nodup)
    (ha : Ev M O σ (tLstF (tPair K (tDct (aty f)) (tDct (aty g)))) ta xs) (hb : Ev M O σ (tLstF (tPair K (tDct (aty f)) (tDct (aty g)))) tb xs) : Ev M O σ tBool (tOp (rEqGood K) ta tb) true :=
  ev_op2 ha hb fun G H v v' Q l ⟨a, vs, e, h, g1, z⟩ ⟨b, ws, e', h', g2, z'⟩ q => by
    subst e e'
    refine ⟨⟨a, b, vs, ws, rfl, rfl, le_lst l h, le_lst l h', prs_good hf hg l g1 nd g2⟩, fun H' x => q _ G H' ⟨fun _ _ => rfl, x, l.trans fun a u e => .inl (x a u e)⟩ rfl⟩
end
end G3
set_option maxRecDepth 100000
set_option maxHeartbeats 4000000
/-! PL1: what the law's dealings and tellings are. -/
namespace G3
open PySem PySem.Spec PyProof.Rows L2
/-- a dealing of those in ps, in their order -/
structure DOn (W : Wo) (ps : List Str) (d : List (Str × Str)) : Prop where
  sl : (keys d).Sublist ps
  fs : ∀ x ∈ d, x.2 ∈ chosen W x.1
  cp : ∀ q ∈ W.places, (cntV d q : Int) ≤ W.hold q
theorem cntV_snoc (d : List (Str × Str)) (p q r : Str) : cntV (d ++ [(p, q)]) r = cntV d r + if q = r then 1 else 0 := by
  unfold cntV
  rw [List.map_append, List.countP_append]
  by_cases h : q = r <;> simp [h]
theorem keys_app {α : Type} (a b : List (Str × α)) : keys (a ++ b) = keys a ++ keys b := List.map_append
theorem deals_iff {W : Wo} (pre : PreW W) : ∀ {n : Nat} {ps : List Str}, ps.length = n → ps.Nodup → (∀ p ∈ ps, p ∈ W.people) → ∀ d, d ∈ dealsOf W ps ↔ DOn W ps d
  | 0, ps, hn, nd, hp, d => by
    cases List.eq_nil_of_length_eq_zero hn
    show d ∈ [[]] ↔ _
    rw [List.mem_singleton]
    constructor
    · rintro rfl
      exact ⟨List.Sublist.refl _, fun x hx => absurd hx (by simp), fun q hq => by have := (pre.spot hq).2.1; show ((0 : Nat) : Int) ≤ _; omega⟩
    · intro h
      have := h.sl.length_le
      exact List.eq_nil_of_length_eq_zero (by rw [keys_len] at this; exact Nat.le_zero.mp this)
  | n + 1, ps, hn, nd, hp, d => by
    obtain ⟨qs, p, rfl⟩ : ∃ qs p, ps = qs ++ [p] := ⟨ps.dropLast, ps.getLast (fun z => by rw [z] at hn; cases hn), (List.dropLast_concat_getLast _).symm⟩
    have hn2 : qs.length = n := by simpa using hn
    obtain ⟨nd1, _, nd2⟩ := List.nodup_append.mp nd
    have hpq : p ∉ qs := fun h => nd2 p h p (by simp) rfl
    have ih := deals_iff pre hn2 nd1 (fun x hx => hp x (by simp [hx]))
    rw [dealsOf_snoc, List.mem_flatMap]
    constructor
    · rintro ⟨e, he, hd⟩
      have de := (ih e).mp he
      have hpk : p ∉ keys e := fun h => hpq (de.sl.subset h)
      unfold longer at hd
      rcases List.mem_cons.mp hd with rfl | hd
      · exact ⟨de.sl.trans (List.sublist_append_left _ _), de.fs, de.cp⟩
      · obtain ⟨q, hq, rfl⟩ := List.mem_map.mp hd
        obtain ⟨h1, h2⟩ := List.mem_filter.mp hq
        have h2 := of_decide_eq_true h2
        rw [dput_out hpk]
        refine ⟨by rw [keys_app]; exact de.sl.append (List.Sublist.refl _), fun x hx => ?_, fun r hr => ?_⟩
        · rcases List.mem_append.mp hx with h | h
          · exact de.fs x h
          · rw [List.mem_singleton.mp h]
            exact h1
        · rw [cntV_snoc]
          have := de.cp r hr
          split
          · next e => subst e; omega
          · omega
    · intro h
      rcases List.eq_nil_or_concat d with rfl | ⟨e, ⟨p', q⟩, rfl⟩
      · refine ⟨[], (ih []).mpr ⟨List.nil_sublist _, fun x hx => absurd hx (by simp), h.cp⟩, List.mem_cons_self⟩
      · rw [List.concat_eq_append] at h ⊢
        have hk : keys (e ++ [(p', q)]) = keys e ++ [p'] := keys_app _ _
        have hs := h.sl
        rw [hk] at hs
        have cpe : ∀ r ∈ W.places, (cntV e r : Int) ≤ W.hold r := fun r hr => by
          have := h.cp r hr
          rw [cntV_snoc] at this
          split at this <;> omega
        have fse : ∀ x ∈ e, x.2 ∈ chosen W x.1 := fun x hx => h.fs x (by simp [hx])
        have hr := List.reverse_sublist.mpr hs
        rw [List.reverse_append, List.reverse_append] at hr
        have hr : (p' :: (keys e).reverse).Sublist (p :: qs.reverse) := hr
        by_cases epp : p' = p
        · subst epp
          have hr2 : (keys e).reverse.Sublist qs.reverse := List.cons_sublist_cons.mp hr
          have hs2 := List.reverse_sublist.mp hr2
          have hpk : p' ∉ keys e := fun h => hpq (hs2.subset h)
          refine ⟨e, (ih e).mpr ⟨hs2, fse, cpe⟩, List.mem_cons_of_mem _ (List.mem_map.mpr ⟨q, List.mem_filter.mpr ⟨h.fs (p', q) (by simp), decide_eq_true ?_⟩, dput_out hpk⟩)⟩
          have hq : q ∈ W.places := (chosen_mem.mp (h.fs (p', q) (by simp))).1
          have := h.cp q hq
          rw [cntV_snoc, if_pos rfl] at this
          omega
        · have hr2 : (p' :: (keys e).reverse).Sublist qs.reverse := by
            cases hr with
            | cons _ h => exact h
            | cons_cons _ h => exact absurd rfl epp
          have hs2 : (keys e ++ [p']).Sublist qs := by
            refine List.reverse_sublist.mp ?_
            rw [List.reverse_append]
            exact hr2
          exact ⟨e ++ [(p', q)], (ih _).mpr ⟨by rw [hk]; exact hs2, h.fs, h.cp⟩, List.mem_cons_self⟩
theorem DOn.gval {W : Wo} (pre : PreW W) {d : List (Str × Str)} (h : DOn W W.people d) : GVal W d := ⟨h.sl.nodup pre.rows.nd, fun x hx => ⟨h.sl.subset (mem_keys (show (x.1, x.2) ∈ d from hx)), h.fs x hx⟩, h.cp⟩
theorem deals_gval {W : Wo} (pre : PreW W) {d : List (Str × Str)} (h : d ∈ dealsOf W W.people) : GVal W d := ((deals_iff pre rfl pre.rows.nd (fun _ h => h) d).mp h).gval pre
def fdsF (W : Wo) : List (List (Str × Str)) := (dealsOf W W.people).filter fun d => isFirsts W d
theorem fds_val {W : Wo} (pre : PreW W) {d : List (Str × Str)} (h : d ∈ fdsF W) : Val W d := by
  obtain ⟨h1, h2⟩ := List.mem_filter.mp h
  have g := deals_gval pre h1
  exact ⟨g.nd, fun x hx => ⟨(g.fs x hx).1, of_decide_eq_true (List.all_eq_true.mp h2 x hx)⟩, g.cp⟩
theorem deals_len {W : Wo} (hs : W.spots.length ≤ 3) : ∀ {n : Nat} {ps : List Str}, ps.length = n → (dealsOf W ps).length ≤ 4 ^ n
  | 0, ps, hn => by
    cases List.eq_nil_of_length_eq_zero hn
    exact Nat.le_refl _
  | n + 1, ps, hn => by
    obtain ⟨qs, p, rfl⟩ : ∃ qs p, ps = qs ++ [p] := ⟨ps.dropLast, ps.getLast (fun z => by rw [z] at hn; cases hn), (List.dropLast_concat_getLast _).symm⟩
    rw [dealsOf_snoc]
    have := flat_len (longer_len hs p) (dealsOf W qs)
    have := deals_len hs (ps := qs) (n := n) (by simpa using hn)
    rw [Nat.pow_succ]
    omega
theorem preD_of {W : Wo} (pre : PreS W) : PreD W (fdsF W) := ⟨by
  refine Nat.le_trans (List.length_filter_le _ _) ?_
  have h := deals_len pre.ls (ps := W.people) rfl
  have hl : W.people.length ≤ 3 := by unfold Wo.people; rw [List.length_map]; exact pre.lr
  have : W.people.length = 0 ∨ W.people.length = 1 ∨ W.people.length = 2 ∨ W.people.length = 3 := by omega
  rcases this with e | e | e | e <;> (rw [e] at h; omega), fun d hd => fds_val pre.pre hd⟩
/-! tellings -/
theorem tell_iff : ∀ {n : Nat} {ps : List Str}, ps.length = n → ps.Nodup → ∀ d, d ∈ tellF ps ↔ keys d = ps
  | 0, ps, hn, nd, d => by
    cases List.eq_nil_of_length_eq_zero hn
    show d ∈ [[]] ↔ _
    rw [List.mem_singleton]
    constructor
    · rintro rfl; rfl
    · intro h
      exact List.map_eq_nil_iff.mp h
  | n + 1, ps, hn, nd, d => by
    obtain ⟨qs, p, rfl⟩ : ∃ qs p, ps = qs ++ [p] := ⟨ps.dropLast, ps.getLast (fun z => by rw [z] at hn; cases hn), (List.dropLast_concat_getLast _).symm⟩
    have hn2 : qs.length = n := by simpa using hn
    obtain ⟨nd1, _, nd2⟩ := List.nodup_append.mp nd
    have hpq : p ∉ qs := fun h => nd2 p h p (by simp) rfl
    have ih := tell_iff hn2 nd1
    rw [tellF_snoc, List.mem_flatMap]
    constructor
    · rintro ⟨e, he, hd⟩
      have de := (ih e).mp he
      unfold tellStep at hd
      obtain ⟨k, _, rfl⟩ := List.mem_map.mp hd
      rw [dput_out (by rw [de]; exact hpq), keys_app, de]
      rfl
    · intro h
      rcases List.eq_nil_or_concat d with rfl | ⟨e, ⟨p', k⟩, rfl⟩
      · exact absurd h (by simp [keys])
      · rw [List.concat_eq_append] at h ⊢
        rw [keys_app] at h
        obtain ⟨h1, h2⟩ := List.append_inj' h rfl
        have h2 : [p'] = [p] := h2
        cases h2
        refine ⟨e, (ih e).mpr h1, List.mem_map.mpr ⟨k, by cases k <;> simp, dput_out (by rw [h1]; exact hpq)⟩⟩
theorem nodup_flat {α β : Type} {f : α → List β} : ∀ {l : List α}, l.Nodup → (∀ a ∈ l, (f a).Nodup) → (∀ a ∈ l, ∀ b ∈ l, ∀ x, x ∈ f a → x ∈ f b → a = b) → (l.flatMap f).Nodup
  | [], _, _, _ => List.nodup_nil
  | a :: r, nd, h1, h2 => by
    obtain ⟨n1, n2⟩ := List.nodup_cons.mp nd
    rw [List.flatMap_cons, List.nodup_append]
    refine ⟨h1 a List.mem_cons_self, nodup_flat n2 (fun b hb => h1 b (List.mem_cons_of_mem _ hb)) (fun b hb c hc x => h2 b (List.mem_cons_of_mem _ hb) c (List.mem_cons_of_mem _ hc) x), fun x hx y hy e => ?_⟩
    subst e
    obtain ⟨b, hb, hxb⟩ := List.mem_flatMap.mp hy
    have := h2 a List.mem_cons_self b (List.mem_cons_of_mem _ hb) x hx hxb
    subst this
    exact n1 hb
theorem tell_nodup : ∀ {n : Nat} {ps : List Str}, ps.length = n → ps.Nodup → (tellF ps).Nodup
  | 0, ps, hn, nd => by
    cases List.eq_nil_of_length_eq_zero hn
    exact List.nodup_cons.mpr ⟨by simp, List.nodup_nil⟩
  | n + 1, ps, hn, nd => by
    obtain ⟨qs, p, rfl⟩ : ∃ qs p, ps = qs ++ [p] := ⟨ps.dropLast, ps.getLast (fun z => by rw [z] at hn; cases hn), (List.dropLast_concat_getLast _).symm⟩
    have hn2 : qs.length = n := by simpa using hn
    obtain ⟨nd1, _, nd2⟩ := List.nodup_append.mp nd
    have hpq : p ∉ qs := fun h => nd2 p h p (by simp) rfl
    have out : ∀ {e : List (Str × Kd)} (k : Kd), e ∈ tellF qs → dput e p k = e ++ [(p, k)] := fun {e} k he => dput_out (by rw [(tell_iff hn2 nd1 e).mp he]; exact hpq)
    rw [tellF_snoc]
    refine nodup_flat (tell_nodup hn2 nd1) (fun e he => ?_) fun e he e' he' x hx hx' => ?_
    · unfold tellStep
      simp only [List.map_cons, List.map_nil, out _ he]
      simp
    · unfold tellStep at hx hx'
      obtain ⟨k, _, rfl⟩ := List.mem_map.mp hx
      obtain ⟨k', _, h⟩ := List.mem_map.mp hx'
      rw [out _ he, out _ he'] at h
      exact ((List.append_inj' h rfl).1).symm
end G3
set_option maxRecDepth 100000
set_option maxHeartbeats 4000000
/-! LI: all tellings of a world are right. -/
namespace G3
open PySem PySem.Spec PyProof.Rows L2
structure SLaw (W : Wo) (tp tq : List (Str × Kd)) : Prop where
  rs : ∀ y, RSo W y → y = (tp, tq)
  ask : ∀ p ∈ tellF W.people, ∀ q ∈ tellF W.places, askF W p q (fdsF W) = some (decide ((p, q) = (tp, tq)))
  kp : keys tp = W.people
  kq : keys tq = W.places
def goodIn (qs : List (List (Str × Kd))) (tp tq p : List (Str × Kd)) : List (List (Str × Kd) × List (Str × Kd)) := (qs.filter fun q => decide ((p, q) = (tp, tq))).map fun q => (p, q)
def goodF (ps qs : List (List (Str × Kd))) (tp tq : List (Str × Kd)) : List (List (Str × Kd) × List (Str × Kd)) := ps.flatMap (goodIn qs tp tq)
theorem good_one {ps qs : List (List (Str × Kd))} {tp tq : List (Str × Kd)} (np : ps.Nodup) (nq : qs.Nodup) (hp : tp ∈ ps) (hq : tq ∈ qs) : goodF ps qs tp tq = [(tp, tq)] := by
  refine List.perm_singleton.mp ((List.perm_ext_iff_of_nodup ?_ (by simp)).mpr fun x => ?_)
  · refine nodup_flat np (fun p _ => ?_) fun p _ p' _ x h h' => ?_
    · unfold goodIn
      exact List.Pairwise.map _ (fun a b h e => h (by injection e)) (nq.filter _)
    · obtain ⟨q, _, e⟩ := List.mem_map.mp h
      obtain ⟨q', _, e'⟩ := List.mem_map.mp h'
      rw [← e] at e'
      injection e' with e1 e2
      exact e1.symm
  · rw [List.mem_singleton]
    unfold goodF
    rw [List.mem_flatMap]
    constructor
    · rintro ⟨p, _, h⟩
      obtain ⟨q, h, e⟩ := List.mem_map.mp h
      rw [← e]
      exact of_decide_eq_true (List.mem_filter.mp h).2
    · rintro rfl
      exact ⟨tp, hp, List.mem_map.mpr ⟨tq, List.mem_filter.mpr ⟨hq, decide_eq_true rfl⟩, rfl⟩⟩
theorem tell_len : ∀ {n : Nat} {ps : List Str}, ps.length = n → (tellF ps).length ≤ 3 ^ n
  | 0, ps, hn => by
    cases List.eq_nil_of_length_eq_zero hn
    exact Nat.le_refl _
  | n + 1, ps, hn => by
    obtain ⟨qs, p, rfl⟩ : ∃ qs p, ps = qs ++ [p] := ⟨ps.dropLast, ps.getLast (fun z => by rw [z] at hn; cases hn), (List.dropLast_concat_getLast _).symm⟩
    rw [tellF_snoc]
    have := flat_len (tellStep_len p) (tellF qs)
    have := tell_len (ps := qs) (n := n) (by simpa using hn)
    rw [Nat.pow_succ]
    omega
theorem tell_27 {ps : List Str} (h : ps.length ≤ 3) : (tellF ps).length ≤ 27 := by
  have h2 := tell_len (ps := ps) rfl
  have : ps.length = 0 ∨ ps.length = 1 ∨ ps.length = 2 ∨ ps.length = 3 := by omega
  rcases this with e | e | e | e <;> (rw [e] at h2; omega)
section
variable {M : Asr} {O : List (Addr × HO)} {σ : L2.St} {K : PySem.W.Frag} {α β : Type} {t : Ty α} {te ta tb : TE} {x : α}
theorem ev_ofR {R : α → Prop} (h : EvR M O σ t te R) (hx : ∀ y, R y → y = x) : Ev M O σ t te x := fun G H m l Q q => h G H m l Q fun v y G' H' e hR r => q v G' H' e (hx y hR ▸ r)
theorem ev_unS {f : α → V} (h : Ev M O σ (tOpt f) te (some x)) : Ev M O σ (aty f) te x := fun G H m l Q q => h G H m l Q fun v G' H' e r => q v G' H' e r
theorem pub_lF {vs : List V} {xs : List α} {p : Addr} [h : HasL M vs t xs] (hl : xs.length ≤ 1000) : ∀ G, M.p G → G p = none → Le G (upd G p (.lst vs)) → (tLstF t).r (upd G p (.lst vs)) (.ref p) xs :=
  fun G m _ l => ⟨p, _, rfl, upd_same, (h.get m).imp fun _ _ z => t.mono l z, by rw [(h.get m).length]; exact sz _ hl⟩
end
section
variable (P : Program) (w : World) (K : PySem.W.Frag) (mg : Str → Option Value) (base : Heap) (C : Addr)
abbrev P_law_all_right : Prop := C8.Cal P w K mg base 13 "_law_all_right" (SpF (aCons (tWorld K) aNil) (fun i => PreS i.1) tBool fun _ => true) []
end
section
variable {P : Program} {w : World} {K : PySem.W.Frag} {mg : Str → Option Value} {base : Heap} {C : Addr}
abbrev s_law_all_right : Stmt := top 82
abbrev N_law_all_right : List Str := ["_law_world_here", "_law_lists_here", "_law_dealings_here", "_law_one", "_law_good", "_law_people", "_law_row", "_law_places", "_law_found"]
theorem sc_law_all_right : FnScope N_law_all_right ["_law_world_here"] (C8.fnScope s_law_all_right) := ⟨rfl, rfl, rfl, by decide +kernel, rfl, by decide +kernel, by decide +kernel⟩
theorem ok_law_all_right (SL : ∀ W, PreS W → ∃ tp tq, SLaw W tp tq) (T : Bi mg) (Dd : Dn K mg "_law_all_right" s_law_all_right ["_law_world_here"]) (c__law_lists : P_law_lists P w K mg base C) (c__law_dealings : P_law_dealings P w K mg base) (c__law_is_firsts : P_law_is_firsts P w K mg base) (c__law_tellings : P_law_tellings P w K mg base) (c__law_asked : P_law_asked P w K mg base C) (c_sorts : P_sorts P w K mg base C) : P_law_all_right P w K mg base := by
  refine cal1 Dd sc_law_all_right fun f cdv A outer s H E hr => ⟨_, (pss_cons (ps_set (i := 1) sc_law_all_right.nd rfl (Or.inl rfl) (C8.pe_c c__law_lists hr (by decide) (by rfl) (pa_cons (pv 0) pa_nil))) (
    pss_cons (ps_setLc (i := 2) (own := [("_law_one", 3)]) (g := gName 3) (by rfl) sc_law_all_right.nd rfl rfl (sw_true rfl rfl rfl (by decide +kernel)) (pi_list (C8.pe_c c__law_dealings hr (by decide) (by rfl) (pa_cons (pv 0) pa_nil))) (blkOk_by (own := [("_law_one", 3)]) (N := N_law_all_right) (sc := C8.fnScope s_law_all_right) (by decide +kernel)) (fun _ _ _ _ _ => (pg_name (i := 3) sc_law_all_right.nd rfl (Or.inl rfl))) (fun _ _ _ _ _ => (pts_one (pt_val (C8.pe_c c__law_is_firsts hr (by decide) (by rfl) (pa_cons (pv 0) (pa_cons (pv 3) (pa_cons (pe_callB (k_len K) (by rfl) T.len (by decide +kernel) (pa_cons (pv 3) pa_nil)) pa_nil))))))) (fun _ _ _ _ _ => (pv 3))) (
    pss_cons (ps_set (i := 4) sc_law_all_right.nd rfl (Or.inl rfl) (pe_lst pa_nil)) (
    pss_cons (ps_for PassesOwn.never rfl (pi_list (C8.pe_c c__law_tellings hr (by decide) (by rfl) (pa_cons (pe_lc (own := [("_law_row", 6)]) (g := gName 6) (tt := tYes) (by rfl) sc_law_all_right.nd (pi_list (pe_ix (ixL K) (pv 0) pe_int (fun _ _ => rfl))) (blkOk_by (own := [("_law_row", 6)]) (N := N_law_all_right) (sc := C8.fnScope s_law_all_right) (by decide +kernel)) (fun _ _ _ _ _ => (pg_name (i := 6) sc_law_all_right.nd rfl (Or.inl rfl))) (fun _ _ _ _ _ => pts_nil) (fun _ _ _ _ _ => (pe_ix (ixT K) (pv 6) pe_int (fun _ _ => rfl)))) pa_nil))) (pg_name (i := 5) sc_law_all_right.nd rfl (Or.inl rfl))
    (pss_cons (ps_for PassesOwn.never rfl (pi_list (C8.pe_c c__law_tellings hr (by decide) (by rfl) (pa_cons (pe_lc (own := [("_law_row", 6)]) (g := gName 6) (tt := tYes) (by rfl) sc_law_all_right.nd (pi_list (pe_ix (ixL K) (pv 0) pe_int (fun _ _ => rfl))) (blkOk_by (own := [("_law_row", 6)]) (N := N_law_all_right) (sc := C8.fnScope s_law_all_right) (by decide +kernel)) (fun _ _ _ _ _ => (pg_name (i := 6) sc_law_all_right.nd rfl (Or.inl rfl))) (fun _ _ _ _ _ => pts_nil) (fun _ _ _ _ _ => (pe_ix (ixT K) (pv 6) pe_int (fun _ _ => rfl)))) pa_nil))) (pg_name (i := 7) sc_law_all_right.nd rfl (Or.inl rfl))
      (pss_cons (ps_set (i := 8) sc_law_all_right.nd rfl (Or.inl rfl) (C8.pe_c c__law_asked hr (by decide) (by rfl) (pa_cons (pv 0) (pa_cons (pv 1) (pa_cons (pe_tup (pa_cons (pv 5) (pa_cons (pv 7) pa_nil))) (pa_cons (pv 2) pa_nil)))))) (
        pss_cons (ps_if (pt_cmpR o_isN (pv 8) pe_non (nomark _))
        (pss_cons (ps_ret pe_bl) pss_nil)
        pss_nil) (
        pss_cons (ps_if (pt_val (pv 8))
        (pss_cons (ps_expr (k_bm K rfl PySem.F.plainAttrs_list PySem.F.slot_list_append PySem.F.type_list_append mt_append (pv 4) (pa_cons (pe_tup (pa_cons (pv 5) (pa_cons (pv 7) pa_nil))) pa_nil))) pss_nil)
        pss_nil) pss_nil)))) pss_nil)) (
    pss_cons (ps_ret (pe_cmpR (op_eqGood (hr.mono (by decide))) (pv 4) (pe_lst (pa_cons (C8.pe_c c_sorts hr (by decide) (by rfl) (pa_cons (pv 1) pa_nil)) pa_nil)) (nomark _))) pss_nil))))), ?_⟩
  rintro B D v1 W h1 pre ret u1
  have pre : PreS W := pre
  have ret : RetOk B tBool (fun y => y = true) D := ret
  obtain ⟨tp, tq, sl⟩ := SL W pre
  have pw := pre.pre
  have ok := pw.wok
  have hlp : W.people.length ≤ 3 := by unfold Wo.people; rw [List.length_map]; exact pre.lr
  have hlq : W.places.length ≤ 3 := by unfold Wo.places; rw [List.length_map]; exact pre.ls
  have tl1 := tell_27 hlp
  have tl2 := tell_27 hlq
  refine st_asg (x := W) (ev_call (ea_cons ev_var ea_nil) pw) fun v2 _ => ?_
  refine st_asg (t := tLstF (tDct tStr)) (x := fdsF W) (ev_is (ev_lcLF (u := tDct tStr) (tgN (tDct tStr) 3) (fun d => isFirsts W d) id (ev_call (ea_cons ev_var ea_nil) pre) (fun L d ω hd ho => et_is (et_B (ev_call (ea_cons ev_var (ea_cons ev_var (ea_cons (ev_lenD ev_var) ea_nil))) ⟨pw, deals_gval pw hd⟩)) (by simp)) (fun L d ω hd ho _ => ev_var)) (List.map_id _)) fun v3 _ => ?_
  refine st_newL fun pg => ?_
  have evq : ∀ {M : Asr} {O : List (Addr × HO)} {σ : L2.St} {v1 : V}, Has M v1 (tWorld K) W → σ[0]? = some (some v1) → True := fun _ _ => trivial
  refine st_forL (tgN (tDct tKd) 5) (fun i (γ : Option V × Option V × Option V × List V × List (List (Str × Kd) × List (Str × Kd))) => γ.2.2.2.2 = goodF ((tellF W.people).take i) (tellF W.places) tp tq ∧ γ.2.2.2.1.length = γ.2.2.2.2.length) (fun γ => itsA (tPair K (tDct tKd) (tDct tKd)) γ.2.2.2.1 γ.2.2.2.2) (fun γ => [(pg, .lst γ.2.2.2.1)])
    (fun γ => [some v1, some v2, some v3, none, some (.ref pg), γ.1, none, γ.2.1, γ.2.2.1]) (ev_call (ea_cons (ev_mapL (u := tStr) (tgN (tPair K tStr (tGrps K)) 6) (·.1) (ev_w1 ev_var) fun L r ω _ _ => ev_fst ev_var) ea_nil) hlp) (none, none, none, [], []) ⟨rfl, rfl⟩ (fun _ _ => .nil) ?_ ?_
  · rintro L i p w5 ⟨o5, o7, o8, vs, ys⟩ hx ho ⟨hys, hvs⟩
    dsimp only at hys hvs ⊢
    have hx : (tellF W.people)[i]? = some p := hx
    have hpt : p ∈ tellF W.people := List.mem_of_getElem? hx
    have hi : i < (tellF W.people).length := (List.getElem?_eq_some_iff.mp hx).1
    have e1 : goodF ((tellF W.people).take (i + 1)) (tellF W.places) tp tq = goodF ((tellF W.people).take i) (tellF W.places) tp tq ++ goodIn (tellF W.places) tp tq p := by
      unfold goodF
      rw [List.take_add_one, hx, List.flatMap_append]
      simp
    have hyl : ys.length ≤ 27 * 27 := by
      have h := flat_len (f := goodIn (tellF W.places) tp tq) (n := 27) (fun a => by unfold goodIn; rw [List.length_map]; exact Nat.le_trans (List.length_filter_le _ _) tl2) ((tellF W.people).take i)
      rw [List.length_take] at h
      rw [hys]
      refine Nat.le_trans h ?_
      have : min i (tellF W.people).length ≤ 27 := by omega
      exact Nat.mul_le_mul_left _ this
    refine st_forL (tgN (tDct tKd) 7) (fun j (γ : Option V × Option V × List V × List (List (Str × Kd) × List (Str × Kd))) => γ.2.2.2 = ys ++ goodIn ((tellF W.places).take j) tp tq p ∧ γ.2.2.1.length = γ.2.2.2.length) (fun γ => itsA (tPair K (tDct tKd) (tDct tKd)) γ.2.2.1 γ.2.2.2) (fun γ => [(pg, .lst γ.2.2.1)])
      (fun γ => [some v1, some v2, some v3, none, some (.ref pg), some w5, none, γ.1, γ.2.1]) (ev_call (ea_cons (ev_mapL (u := tStr) (tgN (tPair K tStr tInt) 6) (·.1) (ev_w2 ev_var) fun L r ω _ _ => ev_fst ev_var) ea_nil) hlq) (o7, o8, vs, ys) ⟨by unfold goodIn; simp, hvs⟩ (fun G m => m.1.2) ?_ ?_
    · rintro L2 j q w7 ⟨o7, o8, vs2, ys2⟩ hx2 ho2 ⟨hy2, hv2⟩
      dsimp only at hy2 hv2 ⊢
      have hx2 : (tellF W.places)[j]? = some q := hx2
      have hqt : q ∈ tellF W.places := List.mem_of_getElem? hx2
      have e2 : goodIn ((tellF W.places).take (j + 1)) tp tq p = goodIn ((tellF W.places).take j) tp tq p ++ goodIn [q] tp tq p := by
        unfold goodIn
        rw [List.take_add_one, hx2, List.filter_append, List.map_append]
        rfl
      have hyl2 : ys2.length ≤ 1000 := by
        rw [hy2, List.length_append]
        have : (goodIn ((tellF W.places).take j) tp tq p).length ≤ 27 := by
          unfold goodIn
          rw [List.length_map]
          refine Nat.le_trans (List.length_filter_le _ _) ?_
          rw [List.length_take]
          omega
        omega
      have pt : PreT W p q := ⟨(tell_iff rfl ok.pn p).mp hpt, (tell_iff rfl ok.qn q).mp hqt⟩
      refine st_asgA (f := V.bl) (x := decide ((p, q) = (tp, tq))) (ev_unS (ev_is (ev_call (i := (W, W, (p, q), fdsF W, ())) (f := fun i : Wo × Wo × (List (Str × Kd) × List (Str × Kd)) × List (List (Str × Str)) × Unit => askF i.1 i.2.2.1.1 i.2.2.1.2 i.2.2.2.1) (ea_cons ev_var (ea_cons ev_var (ea_cons (ev_pair ev_var ev_var) (ea_cons ev_var ea_nil)))) ⟨rfl, pw, pt, preD_of pre⟩) (sl.ask p hpt q hqt))) ?_
      refine st_ifF (et_test (ev_isN (f := V.bl) (x := decide ((p, q) = (tp, tq))) (b := false) ev_varE rfl)) (st_thru ?_)
      refine st_if (et_B (ev_varE (f := V.bl) (x := decide ((p, q) = (tp, tq))))) (fun hb => ?_) (fun hb => ?_)
      · refine st_app (t := tPair K (tDct tKd) (tDct tKd)) (x := (p, q)) (j := 0) rfl (Nat.lt_of_le_of_lt (show vs2.length ≤ 1000 by omega) (by decide)) (ev_pair ev_var ev_var) fun vm _ => ?_
        refine st_thru (st_turn rfl (some w7, some (.bl (decide ((p, q) = (tp, tq)))), vs2 ++ [vm], ys2 ++ [(p, q)]) ⟨?_, ?_⟩ (fun G m => m.1.1.2.append (.cons m.2 .nil)))
        · show ys2 ++ [(p, q)] = _
          rw [e2, hy2, List.append_assoc]
          congr 2
          unfold goodIn
          rw [List.filter_cons, if_pos hb]
          rfl
        · show (vs2 ++ [vm]).length = (ys2 ++ [(p, q)]).length
          rw [List.length_append, List.length_append, hv2]
          rfl
      · refine st_thru (st_turn rfl (some w7, some (.bl (decide ((p, q) = (tp, tq)))), vs2, ys2) ⟨?_, hv2⟩ (fun G m => m.1.2))
        show ys2 = _
        rw [e2, hy2]
        unfold goodIn
        rw [List.filter_cons, if_neg (by rw [hb]; exact Bool.false_ne_true)]
        simp
    · rintro L2 ⟨o7, o8, vs2, ys2⟩ ⟨hy2, hv2⟩
      dsimp only at hy2 hv2 ⊢
      have hy2 : ys2 = ys ++ goodIn ((tellF W.places).take (tellF W.places).length) tp tq p := hy2
      rw [List.take_of_length_le (Nat.le_refl _)] at hy2
      refine st_turn rfl (some w5, o7, o8, vs2, ys2) ⟨?_, hv2⟩ (fun G m => m.2)
      show ys2 = _
      rw [e1, ← hys, hy2]
  · rintro L ⟨o5, o7, o8, vs, ys⟩ ⟨hys, hvs⟩
    dsimp only at hys hvs ⊢
    have hys : ys = goodF ((tellF W.people).take (tellF W.people).length) (tellF W.places) tp tq := hys
    rw [List.take_of_length_le (Nat.le_refl _), good_one (tell_nodup rfl ok.pn) (tell_nodup rfl ok.qn) ((tell_iff rfl ok.pn tp).mpr sl.kp) ((tell_iff rfl ok.qn tq).mpr sl.kq)] at hys
    subst hys
    refine st_pub (x := [(tp, tq)]) (t := tLstF (tPair K (tDct tKd) (tDct tKd))) (pub_lF (by simp)) ?_
    refine st_retF ret (ev_eqGood (f := Kd.v) (g := Kd.v) (xs := [(tp, tq)]) (fun _ => rfl) (fun _ => rfl) (fun x hx => by rw [List.mem_singleton.mp hx, sl.kp, sl.kq]; exact ⟨ok.pn, ok.qn⟩) ev_var (ev_lstF (exs_cons (ev_ofR (evr_call (ea_cons ev_var ea_nil) ok) fun y hy => sl.rs y hy) exs_nil) (by simp))) rfl
end
end G3
set_option maxRecDepth 100000
set_option maxHeartbeats 4000000
/-! G23: one of two owned dicts. -/
namespace G3
open PySem PySem.Spec PyProof.Rows L2
section
variable {X : L2.Cx}
def rKeys : List V → Hp → VK → Prop := fun xs H Q => ∃ (a : Addr) (kvs : List (Key × V)), xs = [.ref a] ∧ Rd H a (.dK kvs) ∧ ∀ p, H p = none → Q (.ref p) (upd H p (.lst (kvs.map fun kv => kV kv.1)))
theorem k_listD (h : X.calm = true) : CallR X (.type "list") rKeys := L2.call_listD h
def rNeD : R2 := fun x y H Q => ∃ a b ks, x = .ref a ∧ y = .ref b ∧ Rd H a (.dK ks) ∧ Rd H b (.dK []) ∧ Q (.bl (!ks.isEmpty)) H
theorem op_neD (hu : X.A.units < cLine) : OpR X (compareOp .NotEq) rNeD := by
  intro pins s σ H x y v u Q I rx ry h
  obtain ⟨a, b, ks, rfl, rfl, ha, hb, q⟩ := h
  cases (show v = Value.ref a from rx)
  cases (show u = Value.ref b from ry)
  obtain ⟨_, ya, va, ra, da⟩ := rd_ok I ha
  obtain ⟨_, yb, vb, rb, db⟩ := rd_ok I hb
  have lb : vb.length = 0 := by rw [← rb.length]; rfl
  have la : va.length = ks.length := by rw [← ra.length]
  refine PySem.W.keq_ne (knd := mixKind X.prog X.w) (r := true) ya yb da db hu (fun e => ?_) ?_
  · rw [lb] at e
    cases List.eq_nil_of_length_eq_zero e
    exact .nil
  · have e : (!(va.length == vb.length && true)) = !ks.isEmpty := by
      rw [la, lb]
      cases ks <;> simp
    rw [e]
    exact ⟨.bl _, H, I, rfl, q⟩
end
section
variable {B : Bs} {M : Asr} {O : List (Addr × HO)} {σ : L2.St} {K : PySem.W.Frag} {α β : Type} {t : Ty α} {te ta tb ty : TE} {tz : TS} {D : Ends} {i i2 i3 j : Nat} {p p2 p3 : Addr} {f : α → V} {R : α → Prop}
theorem akv_keys {xs : List (Str × α)} : ((akv f xs).map fun kv => kV kv.1) = (keys xs).map V.str := by
  unfold akv keys
  rw [List.map_map, List.map_map]
  rfl
theorem ev_okeys {xs : List (Str × α)} (hO : O[j]? = some (p, .dK (akv f xs))) (hl : xs.length ≤ 1000) (hs : σ[i]? = some (some (.ref p)) := by rfl) : Ev M O σ (tLst K tStr) (tCB rKeys (tCons (tVar i) tNil)) (keys xs) := fun G H m l Q q =>
  ⟨_, hs, p, akv f xs, rfl, .inl (l.at_ hO), fun a ha => by
    have x2 := Ext.new (o := .lst ((akv f xs).map fun kv => kV kv.1)) l.le ha
    exact q _ _ _ x2 ⟨a, _, rfl, .of upd_same, by rw [akv_keys]; exact Fa.of_atoms _, by rw [List.length_map, akv_len]; exact sz _ hl⟩⟩
theorem ev_oneD {ks : List (Key × V)} (hO : O[j]? = some (p, .dK ks)) (hs : σ[i]? = some (some (.ref p)) := by rfl) : Ev M O σ tBool (tOp rNeD (tVar i) tDNewK) (!ks.isEmpty) := fun G H m l Q q =>
  ⟨_, hs, fun a ha => by
    have x2 := Ext.new (o := .dK []) l.le ha
    exact ⟨p, a, ks, rfl, rfl, .inl ((l.ext x2).at_ hO), .inl upd_same, q _ _ _ x2 rfl⟩⟩
theorem sb_dputA {xs : List (Str × α)} {k : Str} (hO : O[j]? = some (p, .dK (akv f xs))) (hl : xs.length < sizeLine) (hv : EvB B M O σ (aty f) te R) (hk : Ev M O σ tStr ty k) (c : ∀ x, R x → St B M (O.set j (p, .dK (akv f (dput xs k x)))) tz D σ) (hs : σ[i]? = some (some (.ref p)) := by rfl) : St B M O (tSeq (sDPut (tVar i) ty te) tz) D σ := fun G H m e w =>
  hv G H m e w _ fun v x G1 H1 l1 eB w1 hR r1 => ⟨_, hs, by
    refine hk G1 H1 (M.mono l1 m) (w1.wl eB) _ fun v2 G2 H2 e2 r2 => ?_
    cases r2
    have r1 : v = f x := r1
    subst r1
    have eB2 := B.ext eB e2
    have w2 := w1.ext e2
    obtain ⟨o1, o2, o3⟩ := w2.at_ hO
    refine ⟨p, _, rfl, .inl ⟨akv f xs, .inr k, o3, rfl, by rw [akv_len]; exact hl, rfl⟩, ?_⟩
    rw [akv_put]
    exact c x hR G2 _ (M.mono (e2.le (B.le eB)) (M.mono l1 m)) (by rw [← akv_put]; exact B.set o1 eB2 o2) (by rw [← akv_put]; exact w2.set hO)⟩
/-- one of two owned ones, by a number -/
theorem sb_pick (h : EvB B M O σ tInt te (fun r => 0 ≤ r ∧ r < 2)) (c2 : St B M O tz D (σ.set i (some (.ref p2)))) (c3 : St B M O tz D (σ.set i (some (.ref p3)))) (h2 : σ[i2]? = some (some (.ref p2)) := by rfl) (h3 : σ[i3]? = some (some (.ref p3)) := by rfl) :
    St B M O (tSeq (tAsg (tOp (rIxL K) (L2.tLst (tCons (tVar i2) (tCons (tVar i3) tNil))) te) (gName i)) tz) D σ := fun G H m e w =>
  ⟨_, h2, _, h3, sz 2, fun a ha => by
    have x2 := Ext.new (o := .lst [V.ref p2, V.ref p3]) (B.le e) ha
    have l2 := x2.le (B.le e)
    refine h _ _ (M.mono l2 m) (B.ext e x2) (w.ext x2) _ fun v r G2 H2 l3 e3 w3 hR hv => ?_
    have hv : v = V.int r := hv
    subst hv
    have hsq : SqL K H2 a [V.ref p2, V.ref p3] := (B.le e3).sqL (l3.sqL (.of upd_same))
    have : r = 0 ∨ r = 1 := by omega
    rcases this with z | z
    · subst z
      exact ⟨a, _, 0, .ref p2, rfl, rfl, hsq, rfl, c2 G2 H2 (M.mono l3 (M.mono l2 m)) e3 w3⟩
    · subst z
      exact ⟨a, _, 1, .ref p3, rfl, rfl, hsq, rfl, c3 G2 H2 (M.mono l3 (M.mono l2 m)) e3 w3⟩⟩
theorem sb_pickJ {C : Addr → Prop} (h : EvB B M O σ tInt te (fun r => 0 ≤ r ∧ r < 2)) (c2 : C p2) (c3 : C p3) (k : ∀ p, C p → St B M O tz D (σ.set i (some (.ref p)))) (h2 : σ[i2]? = some (some (.ref p2)) := by rfl) (h3 : σ[i3]? = some (some (.ref p3)) := by rfl) :
    St B M O (tSeq (tAsg (tOp (rIxL K) (L2.tLst (tCons (tVar i2) (tCons (tVar i3) tNil))) te) (gName i)) tz) D σ := sb_pick h (k p2 c2) (k p3 c3) h2 h3
end
end G3
set_option maxRecDepth 100000
set_option maxHeartbeats 4000000
/-! LJ: one told otherwise. -/
namespace G3
open PySem PySem.Spec PyProof.Rows L2
section
variable (P : Program) (w : World) (K : PySem.W.Frag) (mg : Str → Option Value) (base : Heap) (C : Addr)
abbrev P_law_one_otherwise : Prop := C8.Cal P w K mg base 2 "_law_one_otherwise" (SpX (aCons (tPair K (tDct tKd) (tDct tKd)) aNil) (fun i => (keys i.1.1).Nodup ∧ (keys i.1.2).Nodup ∧ i.1.1.length ≤ 10 ∧ i.1.2.length ≤ 10) (tPair K (tDct tKd) (tDct tKd)) fun i y => keys y.1 = keys i.1.1 ∧ keys y.2 = keys i.1.2) []
end
section
variable {P : Program} {w : World} {K : PySem.W.Frag} {mg : Str → Option Value} {base : Heap} {C : Addr}
abbrev s_law_one_otherwise : Stmt := top 83
abbrev N_law_one_otherwise : List Str := ["_law_box_here", "_law_told", "_law_people", "_law_places", "_law_some", "_law_lap", "_law_name"]
theorem sc_law_one_otherwise : FnScope N_law_one_otherwise ["_law_box_here", "_law_told"] (C8.fnScope s_law_one_otherwise) := ⟨rfl, rfl, rfl, by decide +kernel, rfl, by decide +kernel, by decide +kernel⟩
theorem ok_law_one_otherwise (T : Bi mg) (Dd : Dn K mg "_law_one_otherwise" s_law_one_otherwise ["_law_box_here", "_law_told"]) (c__law_take : P_law_take P w K mg base) : P_law_one_otherwise P w K mg base := by
  refine calX1 Dd sc_law_one_otherwise fun f cdv A outer s H E hr => ?_
  have hu := hu_of hr
  refine ⟨_, (pss_cons (ps_set (i := 2) sc_law_one_otherwise.nd rfl (Or.inl rfl) (pe_callTy c_dictD (by rfl) T.dict (by decide +kernel) (pa_cons (pe_ix (ixT K) (pv 1) pe_int (fun _ _ => rfl)) pa_nil))) (
    pss_cons (ps_set (i := 3) sc_law_one_otherwise.nd rfl (Or.inl rfl) (pe_callTy c_dictD (by rfl) T.dict (by decide +kernel) (pa_cons (pe_ix (ixT K) (pv 1) pe_int (fun _ _ => rfl)) pa_nil))) (
    pss_cons (ps_set (i := 4) sc_law_one_otherwise.nd rfl (Or.inl rfl) (pe_ix (ixL K) (pe_lst (pa_cons (pv 2) (pa_cons (pv 3) pa_nil))) (C8.pe_c c__law_take hr (by decide) (by rfl) (pa_cons (pv 0) (pa_cons pe_int pa_nil))) (fun _ _ => rfl))) (
    pss_cons (ps_for PassesOwn.never rfl (pi_range1 (by rfl) T.range (pa_cons (pe_op op_add pe_int (C8.pe_c c__law_take hr (by decide) (by rfl) (pa_cons (pv 0) (pa_cons pe_int pa_nil)))) pa_nil)) (pg_name (i := 5) sc_law_one_otherwise.nd rfl (Or.inl rfl))
    (pss_cons (ps_if (pt_cmpR (op_neD hr.units0) (pv 4) pe_dnewK (nomark _))
      (pss_cons (ps_set (i := 6) sc_law_one_otherwise.nd rfl (Or.inl rfl) (pe_ix (ixL K) (pe_callTy (k_listD rfl) (by rfl) T.list (by decide +kernel) (pa_cons (pv 4) pa_nil)) (C8.pe_c c__law_take hr (by decide) (by rfl) (pa_cons (pv 0) (pa_cons (pe_callB (k_len K) (by rfl) T.len (by decide +kernel) (pa_cons (pv 4) pa_nil)) pa_nil))) (fun _ _ => rfl))) (
        pss_cons (ps_dput hu (pv 4) (pv 6) (pe_ix (ixL K) (pe_lst (pa_cons pe_str (pa_cons pe_str (pa_cons pe_str pa_nil)))) (C8.pe_c c__law_take hr (by decide) (by rfl) (pa_cons (pv 0) (pa_cons pe_int pa_nil))) (fun _ _ => rfl)) rfl) pss_nil))
      pss_nil) pss_nil)) (
    pss_cons (ps_ret (pe_tup (pa_cons (pv 2) (pa_cons (pv 3) pa_nil)))) pss_nil))))), ?_⟩
  rintro B D b v1 ⟨tp, tq⟩ h1 ⟨np, nq, lp, lq⟩ ret
  dsimp only at np nq lp lq
  have ret : RetOk (Bx B b) (tPair K (tDct tKd) (tDct tKd)) (fun y => keys y.1 = keys tp ∧ keys y.2 = keys tq) D := ret
  refine st_copyDA (f := Kd.v) (xs := tp) (ev_fst (p := (tp, tq)) ev_var) fun p2 _ => ?_
  refine st_copyDA (f := Kd.v) (xs := tq) (ev_snd (p := (tp, tq)) ev_var) fun p3 _ => ?_
  have rest : ∀ (j : Nat) (p : Addr) (z0 : List (Str × Kd)), (j = 0 ∧ p = p3 ∧ z0 = tq) ∨ (j = 1 ∧ p = p2 ∧ z0 = tp) → ([(p3, HO.dK (akv Kd.v tq)), (p2, HO.dK (akv Kd.v tp))] : List (Addr × HO))[j]? = some (p, .dK (akv Kd.v z0)) ∧ (keys z0).Nodup ∧ z0.length ≤ 10 := by
    rintro j p z0 (⟨rfl, rfl, rfl⟩ | ⟨rfl, rfl, rfl⟩)
    · exact ⟨rfl, nq, lq⟩
    · exact ⟨rfl, np, lp⟩
  refine sb_pickJ (p2 := p2) (p3 := p3) eb_takeC (C := fun p => ∃ j z0, (j = 0 ∧ p = p3 ∧ z0 = tq) ∨ (j = 1 ∧ p = p2 ∧ z0 = tp)) ⟨1, tp, .inr ⟨rfl, rfl, rfl⟩⟩ ⟨0, tq, .inl ⟨rfl, rfl, rfl⟩⟩ ?_
  rintro p ⟨j, z0, hj⟩
  obtain ⟨hO, nz, lz⟩ := rest j p z0 hj
  have hjl : j < 2 := by
    rcases hj with h | h <;> omega
  have hOs : ∀ x : Addr × HO, ([(p3, HO.dK (akv Kd.v tq)), (p2, HO.dK (akv Kd.v tp))].set j x)[j]? = some x := fun x => by
    rw [List.getElem?_set_self]
    exact hjl
  refine sb_forR (j := 5) (Rn := fun n => 1 ≤ n ∧ n ≤ 2) (fun n i (γ : Option V × Option V × List (Str × Kd)) => keys γ.2.2 = keys z0) (fun _ => Asr.tt) (fun γ => [(p3, HO.dK (akv Kd.v tq)), (p2, HO.dK (akv Kd.v tp))].set j (p, .dK (akv Kd.v γ.2.2)))
    (fun γ => [some (.ref b), some v1, some (.ref p2), some (.ref p3), some (.ref p), γ.1, γ.2.1]) ?_ (fun n hn => by omega) (none, none, z0) (fun _ _ => rfl) (fun _ _ => trivial) ?_ ?_ (s0 := rfl) (o0 := ?_)
  · exact ab_1 (eb_add (Ra := fun x => x = 1) (Rb := fun x => 0 ≤ x ∧ x < 2) (Rc := fun n => 1 ≤ n ∧ n ≤ 2) (eb_E ev_int) eb_takeC fun x y hx hy => by
      have hx : x = 1 := hx
      omega)
  · rintro n i ⟨o5, o6, zs⟩ hn hi hk
    have hk : keys zs = keys z0 := hk
    have hlz : zs.length ≤ 10 := by rw [← keys_len, hk, keys_len]; exact lz
    dsimp only
    refine sb_if (tb_T (et_test (ev_oneD (j := j) (hOs _)))) (fun hb => ?_) (fun hb => ?_)
    · refine sb_asg (t := tStr) (R := fun x => x ∈ keys zs) (eb_ix (K := K) (Rl := fun l => l = keys zs) (Rn := fun r => 0 ≤ r ∧ r < (zs.length : Int)) (eb_E (ev_okeys (j := j) (hOs _) (by omega))) (eb_imp (eb_take (Rm := fun m => m = (zs.length : Int)) (eb_E (ev_is (ev_olenD (j := j) (hOs _)) (by rw [akv_len]))) (fun m hm => ?_)) fun r ⟨m, hm, h0, h1⟩ => by omega) (fun xs n h1 h2 => ⟨n.toNat, by omega, by rw [h1, keys_len]; omega⟩) (fun xs n x h1 h2 hx => by rw [← h1]; exact List.mem_of_getElem? hx)) fun v6 nm hnm hv6 => ?_
      · have hb : (!(akv Kd.v zs).isEmpty) = true := hb.symm
        have : zs.length ≠ 0 := fun z => by
          rw [List.eq_nil_of_length_eq_zero z] at hb
          exact absurd hb (by decide)
        omega
      · have hv6 : v6 = V.str nm := hv6
        subst hv6
        refine sb_dputA (f := Kd.v) (xs := zs) (k := nm) (j := j) (R := fun _ => True) (hOs _) (Nat.lt_of_le_of_lt hlz (by decide)) (eb_ix (K := K) (Rl := fun l => l.length = 3 ∧ ∀ x ∈ l, True) (Rn := fun r => 0 ≤ r ∧ r < 3) (eb_lst (xb_cons (eb_imp (eb_E (ev_kd (k := .loose))) fun _ _ => trivial) (xb_cons (eb_imp (eb_E (ev_kd (k := .tight))) fun _ _ => trivial) (xb_cons (eb_imp (eb_E (ev_kd (k := .paired))) fun _ _ => trivial) xb_nil)))) (eb_takeC (m := 3)) (fun xs n h1 h2 => ⟨n.toNat, by omega, by omega⟩) (fun _ _ _ _ _ _ => trivial)) ev_var fun k _ => ?_
        rw [List.set_set]
        refine st_thru (st_turn rfl (some (.int (i : Int)), some (.str nm), dput zs nm k) ?_ (fun _ _ => trivial))
        show keys (dput zs nm k) = keys z0
        rw [keys_put_in hnm, hk]
    · exact st_thru (st_turn rfl (some (.int (i : Int)), o6, zs) hk (fun _ _ => trivial))
  · rintro n ⟨o5, o6, zs⟩ hn hk
    have hk : keys zs = keys z0 := hk
    have hlz : zs.length ≤ 10 := by rw [← keys_len, hk, keys_len]; exact lz
    dsimp only
    rcases hj with ⟨rfl, rfl, rfl⟩ | ⟨rfl, rfl, rfl⟩
    · refine st_pub (pub_dA (f := Kd.v) (xs := zs) (by omega)) (st_pub (pub_dA (f := Kd.v) (xs := tp) (by omega)) ?_)
      exact st_retF (y := (tp, zs)) ret (ev_pair ev_var ev_var) ⟨rfl, hk⟩
    · refine st_pub (pub_dA (f := Kd.v) (xs := tq) (by omega)) (st_pub (pub_dA (f := Kd.v) (xs := zs) (by omega)) ?_)
      exact st_retF (y := (zs, tq)) ret (ev_pair ev_var ev_var) ⟨hk, rfl⟩
  · rcases hj with ⟨rfl, rfl, rfl⟩ | ⟨rfl, rfl, rfl⟩ <;> rfl
end
end G3
set_option maxRecDepth 100000
set_option maxHeartbeats 4000000
/-! LK: the law. -/
namespace G3
open PySem PySem.Spec PyProof.Rows L2
section
variable {B : Bs} {M : Asr} {O : List (Addr × HO)} {σ : L2.St} {K : PySem.W.Frag} {α β : Type} {t : Ty α} {te ta tb ty : TE} {tz : TS} {D : Ends} {i j : Nat} {R : α → Prop} {E : XK}
theorem st_newBox {tr : TA} {S : Int × Unit → Prop} (h : EvAR M O σ (aCons tInt aNil) tr S) (k : ∀ p x0 x1 x2, St B M ((p, bx x0 x1 x2) :: O) tz D (σ.set i (some (.ref p)))) : St B M O (tSeq (tAsg (tCall (SpNB (aCons tInt aNil)) [] E tr) (gName i)) tz) D σ := fun G H m e w => h G H m (w.wl e) _ fun vs x G1 H1 e1 hR r => by
  have eB := B.ext e e1
  have w1 := w.ext e1
  show SpNB (aCons tInt aNil) (vs ++ []) H1 _ _
  rw [List.append_nil]
  refine ⟨G1, x, e1.gh, r, fun p x0 x1 x2 G2 H2 y hp g2 hb => ?_⟩
  have w2 := w1.ext y
  refine k p x0 x1 x2 G2 H2 (M.mono ((e1.trans y).le (B.le e)) m) (B.ext eB y) ⟨List.nodup_cons.mpr ⟨fun hm => ?_, w2.1⟩, fun po hm => ?_⟩
  · obtain ⟨po, hm, z⟩ := List.mem_map.mp hm
    have := (w1.2 po hm).2.2
    have z : po.1 = p := z
    rw [z, hp] at this
    cases this
  · rcases List.mem_cons.mp hm with z | z
    · rw [z]
      exact ⟨B.new eB hp, g2, hb⟩
    · exact w2.2 po z
theorem ab_mono {ι : Type} {A : TyA ι} {tr : TA} {S S' : ι → Prop} (h : EvAB B M O σ A tr S) (k : ∀ i, S i → S' i) : EvAB B M O σ A tr S' := fun G H m e w Q q => h G H m e w Q fun vs i G' H' l e1 o1 hs r => q vs i G' H' l e1 o1 (k i hs) r
theorem ev_isB {a b : Bool} (ha : Ev M O σ (aty V.bl) ta a) (hb : Ev M O σ (aty V.bl) tb b) : Ev M O σ tBool (tOp rIsB ta tb) (decide (a = b)) := ev_opA ha hb fun G H v v' Q l h1 h2 q => ⟨a, b, h1, h2, q⟩
theorem tb_isN {f : α → V} {R : Option α → Prop} {c : Bool} (ha : EvB B M O σ (tOpt f) ta R) (hR : ∀ x, R x → decide (oV f x = .non) = c) : EvTB B M O σ (tTest (tOp rIsNo ta (tC .non))) (fun y => y = c) :=
  tb_test (eb_op2 (u := tNon) (Rb := fun _ => True) ha (eb_imp (eb_E (ev_c (x := ()) fun _ => rfl)) fun _ _ => trivial) fun G H v v' x y Q l h1 h2 hx _ q => by
    have h1 : v = oV f x := h1
    have h2 : v' = V.non := h2
    subst h1 h2
    exact ⟨rfl, by rw [hR x hx]; exact q _ c G H (.refl l) rfl rfl⟩)
end
section
variable (P : Program) (w : World) (K : PySem.W.Frag) (mg : Str → Option Value) (base : Heap) (C : Addr)
abbrev P_law (f : Addr) (fd : FuncData) : Prop := FnOk P w K mg base C8.CX0 14 f fd ["_law_script"] (SpF (aCons (tLst K tInt) aNil) (fun _ => True) tBool fun _ => true)
end
section
variable {P : Program} {w : World} {K : PySem.W.Frag} {mg : Str → Option Value} {base : Heap}
theorem fn_one {α β : Type} {t1 : Ty α} {u : Ty β} {pre : α × Unit → Prop} {R : α × Unit → β → Prop} {p1 x : Str} {st : Stmt} {N : List Str} {k : Nat} {f : Addr} {fd : FuncData} (F : C8.Fun K x x st f fd) (S : FnScope N [p1] (C8.fnScope st)) (h : Body P w K mg base N x st k (Z1 t1 pre u R N)) : FnOk P w K mg base C8.CX0 (k + 1) f fd [p1] (SpR (aCons t1 aNil) pre u R) := by
  refine fn_sp F S (fun G vs i ⟨v1, _, e1, _, e2⟩ => by subst e1; have : _ = _ := e2; subst this; rfl) fun cdv A' outer s H E hr => ?_
  obtain ⟨t, ht, z⟩ := h f cdv A' outer s H E hr
  refine ⟨t, ht, fun G vs i D l a p q n => ?_⟩
  obtain ⟨v1, _, rfl, h1, e2⟩ := a
  have e3 : _ = _ := e2
  subst e3
  exact st_start (z (Bs.of G H) D v1 i.1 (t1.of h1) p q n) ⟨trivial, h1⟩ l
end
section
variable {P : Program} {w : World} {K : PySem.W.Frag} {mg : Str → Option Value} {base : Heap} {C : Addr}
abbrev s_law : Stmt := top 84
abbrev N_law : List Str := ["_law_script", "_law_k", "_law_box_here", "_law_world_here", "_law_lists_here", "_law_dealings_here", "_law_one", "_law_lap"]
theorem sc_law : FnScope N_law ["_law_script"] (C8.fnScope s_law) := ⟨rfl, rfl, rfl, by decide +kernel, rfl, by decide +kernel, by decide +kernel⟩
theorem ok_law (SL : ∀ W, PreS W → ∃ tp tq, SLaw W tp tq) (AL : ∀ W tp tq, PreS W → PreT W tp tq → ∃ b, askF W tp tq (fdsF W) = some b) (T : Bi mg) {f : Addr} {fd : FuncData} (Fl : C8.Fun K "law" "law" s_law f fd) (c__law_take : P_law_take P w K mg base) (c__law_cell : P_law_cell P w K mg base) (c__law_box : P_law_box P w K mg base) (c__law_world : P_law_world P w K mg base) (c__law_lists : P_law_lists P w K mg base C) (c__law_dealings : P_law_dealings P w K mg base) (c__law_is_firsts : P_law_is_firsts P w K mg base) (c__law_asked : P_law_asked P w K mg base C) (c_sorts : P_sorts P w K mg base C) (c__law_one_otherwise : P_law_one_otherwise P w K mg base) (c__law_all_right : P_law_all_right P w K mg base) : P_law P w K mg base f fd := by
  refine fn_one Fl sc_law fun f cdv A outer s H E hr => ⟨_, (pss_cons (ps_for PassesOwn.never rfl (pi_range1 (by rfl) T.range (pa_cons (pe_callB (c_max2 rfl) (by rfl) T.max (by decide +kernel) (pa_cons pe_int (pa_cons (pe_callB (c_min2 rfl) (by rfl) T.min (by decide +kernel) (pa_cons pe_int (pa_cons (pe_callB (k_len K) (by rfl) T.len (by decide +kernel) (pa_cons (pv 0) pa_nil)) pa_nil))) pa_nil))) pa_nil)) (pg_name (i := 1) sc_law.nd rfl (Or.inl rfl))
    (pss_cons (ps_set (i := 2) sc_law.nd rfl (Or.inl rfl) (C8.pe_c c__law_box hr (by decide) (by rfl) (pa_cons (C8.pe_c c__law_cell hr (by decide) (by rfl) (pa_cons (pv 0) (pa_cons (pv 1) pa_nil))) pa_nil))) (
      pss_cons (ps_set (i := 3) sc_law.nd rfl (Or.inr rfl) (C8.pe_c c__law_world hr (by decide) (by rfl) (pa_cons (pv 2) (pa_cons (pe_cmpR op_eq (C8.pe_c c__law_take hr (by decide) (by rfl) (pa_cons (pv 2) (pa_cons pe_int pa_nil))) pe_int (nomark _)) (pa_cons pe_int (pa_cons (pe_op op_add pe_int (C8.pe_c c__law_take hr (by decide) (by rfl) (pa_cons (pv 2) (pa_cons pe_int pa_nil)))) pa_nil)))))) (
      pss_cons (ps_if (pt_not (pt_val (C8.pe_c c__law_all_right hr (by decide) (by rfl) (pa_cons (pv 3) pa_nil))))
      (pss_cons (ps_ret pe_bl) pss_nil)
      pss_nil) pss_nil)))) (
    pss_cons (ps_set (i := 2) sc_law.nd rfl (Or.inl rfl) (C8.pe_c c__law_box hr (by decide) (by rfl) (pa_cons (C8.pe_c c__law_cell hr (by decide) (by rfl) (pa_cons (pv 0) (pa_cons pe_int pa_nil))) pa_nil))) (
    pss_cons (ps_set (i := 3) sc_law.nd rfl (Or.inr rfl) (C8.pe_c c__law_world hr (by decide) (by rfl) (pa_cons (pv 2) (pa_cons (pe_cmpR op_eq (C8.pe_c c__law_take hr (by decide) (by rfl) (pa_cons (pv 2) (pa_cons pe_int pa_nil))) pe_int (nomark _)) (pa_cons pe_int (pa_cons (pe_op op_add pe_int (C8.pe_c c__law_take hr (by decide) (by rfl) (pa_cons (pv 2) (pa_cons pe_int pa_nil)))) pa_nil)))))) (
    pss_cons (ps_set (i := 4) sc_law.nd rfl (Or.inl rfl) (C8.pe_c c__law_lists hr (by decide) (by rfl) (pa_cons (pv 3) pa_nil))) (
    pss_cons (ps_setLc (i := 5) (own := [("_law_one", 6)]) (g := gName 6) (by rfl) sc_law.nd rfl rfl (sw_true rfl rfl rfl (by decide +kernel)) (pi_list (C8.pe_c c__law_dealings hr (by decide) (by rfl) (pa_cons (pv 3) pa_nil))) (blkOk_by (own := [("_law_one", 6)]) (N := N_law) (sc := C8.fnScope s_law) (by decide +kernel)) (fun _ _ _ _ _ => (pg_name (i := 6) sc_law.nd rfl (Or.inl rfl))) (fun _ _ _ _ _ => (pts_one (pt_val (C8.pe_c c__law_is_firsts hr (by decide) (by rfl) (pa_cons (pv 3) (pa_cons (pv 6) (pa_cons (pe_callB (k_len K) (by rfl) T.len (by decide +kernel) (pa_cons (pv 6) pa_nil)) pa_nil))))))) (fun _ _ _ _ _ => (pv 6))) (
    pss_cons (ps_for PassesOwn.never rfl (pi_range1 (by rfl) T.range (pa_cons pe_int pa_nil)) (pg_name (i := 7) sc_law.nd rfl (Or.inl rfl))
    (pss_cons (ps_if (pt_cmpR o_isN (C8.pe_c c__law_asked hr (by decide) (by rfl) (pa_cons (pv 3) (pa_cons (pv 4) (pa_cons (C8.pe_c c__law_one_otherwise hr (by decide) (by rfl) (pa_cons (pv 2) (pa_cons (C8.pe_c c_sorts hr (by decide) (by rfl) (pa_cons (pv 4) pa_nil)) pa_nil))) (pa_cons (pv 5) pa_nil))))) pe_non (nomark _))
      (pss_cons (ps_ret pe_bl) pss_nil)
      pss_nil) pss_nil)) (
    pss_cons (ps_ret (pe_cmpR op_isBl (C8.pe_c c__law_asked hr (by decide) (by rfl) (pa_cons (pv 3) (pa_cons (pv 4) (pa_cons (C8.pe_c c_sorts hr (by decide) (by rfl) (pa_cons (pv 4) pa_nil)) (pa_cons (pv 5) pa_nil))))) pe_bl (nomark _))) pss_nil))))))), ?_⟩
  rintro B D v0 xs h1 u0 ret u1
  have ret : RetOk B tBool (fun y => y = true) D := ret
  refine sb_forR (j := 1) (Rn := fun n => 1 ≤ n ∧ n ≤ 3) (fun n i (γ : Option V × Option V × Option V) => True) (fun _ => Asr.tt) (fun _ => []) (fun γ => [some v0, γ.1, γ.2.1, γ.2.2, none, none, none, none]) ?_ (fun n hn => by omega) (none, none, none) (fun _ _ => trivial) (fun _ _ => trivial) ?_ ?_
  · refine ab_1 (R := fun n => 1 ≤ n ∧ n ≤ 3) ?_
    refine eb_imp (R := fun y => y = if (if (xs.length : Int) < 3 then (xs.length : Int) else 3) > 1 then (if (xs.length : Int) < 3 then (xs.length : Int) else 3) else 1) ?_ fun n hn => ?_
    · exact eb_E (ev_max2 ev_int (ev_min2 ev_int (ev_lenL ev_var)))
    · have hn : n = if (if (xs.length : Int) < 3 then (xs.length : Int) else 3) > 1 then (if (xs.length : Int) < 3 then (xs.length : Int) else 3) else 1 := hn
      split at hn <;> (try split at hn) <;> omega
  · rintro n i ⟨o1, o2, o3⟩ hn hi -
    dsimp only
    refine st_newBox (S := fun _ => True ∧ True) ?_ fun b x0 x1 x2 => st_box ?_
    · exact ear_cons (R := fun _ => True) (evr_call (R := fun _ _ => True) (i := (xs, (i : Int), ())) (ea_cons ev_var (ea_cons (ev_varE (f := V.int)) ea_nil)) ⟨by show (0 : Int) ≤ (i : Int); omega, by show (i : Int) ≤ 10; omega⟩) ear_nil
    refine sb_asg (t := tWorld K) (R := fun W => WOk 2 W) (eb_imp (eb_callX (S := fun i => True ∧ i.2.1 = 2 ∧ (1 ≤ i.2.2.1 ∧ i.2.2.1 ≤ 3) ∧ True) (ab_cons (R := fun _ => True) (eb_eqI (Rc := fun _ => True) eb_takeC (eb_E ev_int) fun _ _ _ _ => trivial) (ab_cons (R := fun x => x = 2) (eb_E ev_int) (ab_cons (R := fun x => 1 ≤ x ∧ x ≤ 3) (eb_add (Ra := fun x => x = 1) (eb_E ev_int) (eb_takeC (m := 3)) fun x y hx hy => by
      have hx : x = 1 := hx
      omega) ab_nil))) fun i hi => ⟨by rw [hi.2.1]; omega, hi.2.2.1⟩) fun W ⟨i, hi, hw⟩ => by rw [hi.2.1] at hw; exact hw) fun v3 W hW _ => ?_
    have pre : PreS W := ⟨hW.pre, by have := hW.lr; omega, by have := hW.ls; omega⟩
    refine st_ifF (et_is (et_not (et_B (ev_call (ea_cons ev_var ea_nil) pre))) rfl) (st_thru ?_)
    exact st_unbox (st_turn rfl (some (.int (i : Int)), some (.ref b), some v3) trivial (fun _ _ => trivial))
  · rintro n ⟨o1, o2, o3⟩ hn -
    dsimp only
    refine st_newBox (S := fun _ => True ∧ True) ?_ fun b x0 x1 x2 => st_box ?_
    · exact ear_cons (R := fun _ => True) (evr_call (R := fun _ _ => True) (i := (xs, (3 : Int), ())) (ea_cons ev_var (ea_cons ev_int ea_nil)) ⟨by show (0 : Int) ≤ 3; omega, by show (3 : Int) ≤ 10; omega⟩) ear_nil
    refine sb_asg (t := tWorld K) (R := fun W => WOk 3 W) (eb_imp (eb_callX (S := fun i => True ∧ i.2.1 = 3 ∧ (1 ≤ i.2.2.1 ∧ i.2.2.1 ≤ 3) ∧ True) (ab_cons (R := fun _ => True) (eb_eqI (Rc := fun _ => True) eb_takeC (eb_E ev_int) fun _ _ _ _ => trivial) (ab_cons (R := fun x => x = 3) (eb_E ev_int) (ab_cons (R := fun x => 1 ≤ x ∧ x ≤ 3) (eb_add (Ra := fun x => x = 1) (eb_E ev_int) (eb_takeC (m := 3)) fun x y hx hy => by
      have hx : x = 1 := hx
      omega) ab_nil))) fun i hi => ⟨by rw [hi.2.1]; omega, hi.2.2.1⟩) fun W ⟨i, hi, hw⟩ => by rw [hi.2.1] at hw; exact hw) fun v3 W hW _ => ?_
    have pre : PreS W := ⟨hW.pre, by have := hW.lr; omega, by have := hW.ls; omega⟩
    have pw := pre.pre
    have ok := pw.wok
    obtain ⟨tp, tq, sl⟩ := SL W pre
    have ltp : tp.length ≤ 10 := by rw [← keys_len, sl.kp]; exact ok.pl
    have ltq : tq.length ≤ 10 := by rw [← keys_len, sl.kq]; exact ok.ql
    refine st_asg (x := W) (ev_call (ea_cons ev_var ea_nil) pw) fun v4 _ => ?_
    refine st_asg (t := tLstF (tDct tStr)) (x := fdsF W) (ev_is (ev_lcLF (u := tDct tStr) (tgN (tDct tStr) 6) (fun d => isFirsts W d) id (ev_call (ea_cons ev_var ea_nil) pre) (fun L d ω hd ho => et_is (et_B (ev_call (ea_cons ev_var (ea_cons ev_var (ea_cons (ev_lenD ev_var) ea_nil))) ⟨pw, deals_gval pw hd⟩)) (by simp)) (fun L d ω hd ho _ => ev_var)) (List.map_id _)) fun v5 _ => ?_
    refine sb_forR (j := 7) (Rn := fun n => n = 6) (fun n i (γ : Option V) => True) (fun _ => Asr.tt) (fun _ => []) (fun γ => [some v0, o1, some (.ref b), some v3, some v4, some v5, none, γ]) ?_ (fun n hn => by omega) none (fun _ _ => trivial) (fun _ _ => trivial) ?_ ?_
    · exact ab_1 (eb_E ev_int)
    · rintro n i o7 hn hi -
      refine sb_if (R := fun y => y = false) (tb_isN (f := V.bl) (R := fun x => ∃ c, x = some c) ?_ ?_) (fun hb => ?_) (fun hb => ?_)
      · refine eb_imp (eb_call (S := fun i : Wo × Wo × (List (Str × Kd) × List (Str × Kd)) × List (List (Str × Str)) × Unit => i.1 = W ∧ i.2.1 = W ∧ (keys i.2.2.1.1 = keys tp ∧ keys i.2.2.1.2 = keys tq) ∧ i.2.2.2.1 = fdsF W ∧ True) (ab_mono (ab_cons (R := fun x => x = W) (eb_E ev_var) (ab_cons (R := fun x => x = W) (eb_E ev_var) (ab_cons (R := fun y : List (Str × Kd) × List (Str × Kd) => keys y.1 = keys tp ∧ keys y.2 = keys tq) ?_ (ab_cons (R := fun x => x = fdsF W) (eb_E ev_var) ab_nil)))) fun i h => h) fun i hi => ?_) ?_
        · exact eb_imp (eb_callX (S := fun i => i.1 = (tp, tq) ∧ True) (ab_cons (R := fun x => x = (tp, tq)) (eb_E (ev_ofR (evr_call (ea_cons ev_var ea_nil) ok) fun y hy => sl.rs y hy)) ab_nil) fun i hi => by
            rw [hi.1]
            exact ⟨by rw [sl.kp]; exact ok.pn, by rw [sl.kq]; exact ok.qn, ltp, ltq⟩) fun y ⟨i, hi, hy⟩ => by
            rw [hi.1] at hy
            exact hy
        · obtain ⟨W1, W2, t12, ds, u⟩ := i
          obtain ⟨e1, e2, ⟨e3, e4⟩, e5, _⟩ := hi
          dsimp only at e1 e2 e3 e4 e5
          subst e1 e2 e5
          exact ⟨rfl, pw, ⟨by rw [e3, sl.kp], by rw [e4, sl.kq]⟩, preD_of pre⟩
        · rintro y ⟨⟨W1, W2, t12, ds, u⟩, hi, hy⟩
          obtain ⟨e1, e2, ⟨e3, e4⟩, e5, _⟩ := hi
          dsimp only at e1 e2 e3 e4 e5
          subst e1 e2 e5
          obtain ⟨c, hc⟩ := AL _ t12.1 t12.2 pre ⟨by rw [e3, sl.kp], by rw [e4, sl.kq]⟩
          exact ⟨c, by rw [hy]; exact hc⟩
      · rintro x ⟨c, rfl⟩
        rfl
      · exact absurd hb (by decide)
      · exact st_thru (st_turn rfl (some (.int (i : Int))) trivial (fun _ _ => trivial))
    · rintro n o7 hn -
      refine st_unbox (st_retF ret (ev_isB (a := true) (b := true) (ev_unS (ev_is (ev_call (i := (W, W, (tp, tq), fdsF W, ())) (f := fun i : Wo × Wo × (List (Str × Kd) × List (Str × Kd)) × List (List (Str × Str)) × Unit => askF i.1 i.2.2.1.1 i.2.2.1.2 i.2.2.2.1) (ea_cons ev_var (ea_cons ev_var (ea_cons (ev_ofR (evr_call (ea_cons ev_var ea_nil) ok) fun y hy => sl.rs y hy) (ea_cons ev_var ea_nil)))) ⟨rfl, pw, ⟨sl.kp, sl.kq⟩, preD_of pre⟩) ?_)) ev_bl) rfl)
      show askF W tp tq (fdsF W) = some true
      rw [sl.ask tp ((tell_iff rfl ok.pn tp).mpr sl.kp) tq ((tell_iff rfl ok.qn tq).mpr sl.kq), decide_eq_true rfl]
end
end G3
set_option maxRecDepth 100000
set_option maxHeartbeats 4000000
/-! PL2: sums; covers. -/
namespace G3
open PySem PySem.Spec PyProof.Rows L2
section
variable {α β : Type}
def sm (l : List α) (f : α → Int) : Int := (l.map f).sum
theorem sm_cons {a : α} {l : List α} {f : α → Int} : sm (a :: l) f = f a + sm l f := by unfold sm; rw [List.map_cons, List.sum_cons]
theorem sm_nil {f : α → Int} : sm ([] : List α) f = 0 := rfl
theorem sm_add {l : List α} {f g : α → Int} : sm l (fun a => f a + g a) = sm l f + sm l g := by
  induction l with
  | nil => rfl
  | cons a r ih => rw [sm_cons, sm_cons, sm_cons, ih]; omega
theorem sm_congr {l : List α} {f g : α → Int} (h : ∀ a ∈ l, f a = g a) : sm l f = sm l g := by
  unfold sm
  rw [List.map_congr_left h]
theorem sm_le {l : List α} {f g : α → Int} (h : ∀ a ∈ l, f a ≤ g a) : sm l f ≤ sm l g := by
  induction l with
  | nil => exact Int.le_refl _
  | cons a r ih =>
    rw [sm_cons, sm_cons]
    have := ih fun b hb => h b (List.mem_cons_of_mem _ hb)
    have := h a List.mem_cons_self
    omega
theorem sm_zero {l : List α} : sm l (fun _ => 0) = 0 := by
  induction l with
  | nil => rfl
  | cons a r ih => rw [sm_cons, ih]; rfl
theorem sm_comm {l : List α} {k : List β} {f : α → β → Int} : (sm l fun a => sm k fun b => f a b) = sm k fun b => sm l fun a => f a b := by
  induction l with
  | nil => rw [sm_nil]; exact (sm_zero).symm
  | cons a r ih =>
    rw [sm_cons, ih, ← sm_add]
    exact sm_congr fun b _ => (sm_cons (f := fun a => f a b)).symm
theorem sm_eq_of_le {l : List α} {f g : α → Int} (h : ∀ a ∈ l, f a ≤ g a) (he : sm l g ≤ sm l f) : ∀ a ∈ l, f a = g a := by
  induction l with
  | nil => exact fun a ha => absurd ha (by simp)
  | cons b r ih =>
    rw [sm_cons, sm_cons] at he
    have h1 := h b List.mem_cons_self
    have h2 := sm_le fun c hc => h c (List.mem_cons_of_mem _ hc)
    intro a ha
    rcases List.mem_cons.mp ha with z | z
    · rw [z]; omega
    · exact ih (fun c hc => h c (List.mem_cons_of_mem _ hc)) (by omega) a z
theorem sm_one [DecidableEq α] {l : List α} (nd : l.Nodup) {b : α} (hb : b ∈ l) {x : Int} : sm l (fun a => if a = b then x else 0) = x := by
  induction l with
  | nil => exact absurd hb (by simp)
  | cons c r ih =>
    obtain ⟨n1, n2⟩ := List.nodup_cons.mp nd
    rw [sm_cons]
    rcases List.mem_cons.mp hb with z | z
    · subst z
      rw [if_pos rfl, sm_congr (g := fun _ => 0) (fun a ha => if_neg (by rintro rfl; exact n1 ha)), sm_zero]
      omega
    · rw [if_neg (by rintro rfl; exact n1 z), ih n2 z]
      omega
end
section
theorem b2n_le {b : Bool} : 0 ≤ b2n b ∧ b2n b ≤ 1 := by cases b <;> decide
theorem sm_keys {d : List (Str × Str)} {P : List Str} (nd : (keys d).Nodup) (hP : ∀ x ∈ d, x.1 ∈ P) (nP : P.Nodup) (φ : Str → Int) : sm d (fun x => φ x.1) = sm P fun p => if (dget d p).isSome then φ p else 0 := by
  have e1 : ∀ p, (if (dget d p).isSome then φ p else 0) = sm d fun x => if p = x.1 then φ p else 0 := by
    clear hP
    induction d with
    | nil => intro p; rfl
    | cons x r ih =>
      intro p
      have nd : (x.1 :: keys r).Nodup := nd
      obtain ⟨n1, n2⟩ := List.nodup_cons.mp nd
      rw [sm_cons, ← ih n2, dget_cons]
      by_cases e : x.1 = p
      · rw [if_pos e, if_pos e.symm, dget_none.mpr (by rw [← e]; exact n1)]
        simp
      · have e' : ¬ p = x.1 := fun z => e z.symm
        simp only [if_neg e, if_neg e', Int.zero_add]
  rw [sm_congr fun p _ => e1 p, sm_comm]
  refine sm_congr fun x hx => ?_
  have := sm_one nP (hP x hx) (x := φ x.1)
  rw [← this]
  exact sm_congr fun p _ => by
    split
    · next e => rw [e]
    · rfl
theorem sm_cnt {d : List (Str × Str)} {q : Str} : (cntV d q : Int) = sm d fun x => b2n (decide (x.2 = q)) := by
  unfold cntV
  induction d with
  | nil => rfl
  | cons x r ih =>
    rw [sm_cons, ← ih, List.map_cons, List.countP_cons]
    by_cases e : x.2 = q <;> simp [e, b2n] <;> omega
theorem sm_vals {d : List (Str × Str)} {Q : List Str} (hQ : ∀ x ∈ d, x.2 ∈ Q) (nQ : Q.Nodup) (φ : Str → Int) : sm d (fun x => φ x.2) = sm Q fun q => φ q * cntV d q := by
  have e1 : ∀ q, φ q * (cntV d q : Int) = sm d fun x => if q = x.2 then φ q else 0 := by
    intro q
    rw [sm_cnt]
    clear hQ
    induction d with
    | nil => exact Int.mul_zero _
    | cons x r ih =>
      rw [sm_cons, sm_cons, ← ih, Int.mul_add]
      by_cases e : x.2 = q
      · rw [if_pos e.symm, decide_eq_true e]
        simp [b2n]
      · rw [if_neg (fun z => e z.symm), decide_eq_false e]
        simp [b2n]
  rw [sm_congr fun q _ => e1 q, sm_comm]
  refine sm_congr fun x hx => ?_
  rw [← sm_one nQ (hQ x hx) (x := φ x.2)]
  exact sm_congr fun q _ => by
    split
    · next e => rw [e]
    · rfl
end
end G3
set_option maxRecDepth 100000
set_option maxHeartbeats 4000000
/-! PL3: weak duality. -/
namespace G3
open PySem PySem.Spec PyProof.Rows L2
/-- a cover of the first pairs -/
def Cov (W : Wo) (X T : Str → Bool) : Prop := ∀ p ∈ W.people, ∀ q ∈ W.first p, X p = true ∨ T q = true
def wt (W : Wo) (X T : Str → Bool) : Int := sm W.people (fun p => b2n (X p)) + sm W.places fun q => W.hold q * b2n (T q)
section
variable {W : Wo} {X T : Str → Bool} {d : List (Str × Str)}
theorem sm_len {α : Type} {l : List α} : (l.length : Int) = sm l fun _ => 1 := by
  induction l with
  | nil => rfl
  | cons a r ih => rw [sm_cons, ← ih, List.length_cons]; omega
theorem len_le (ok : Wok W) (v : Val W d) (c : Cov W X T) : (d.length : Int) ≤ sm W.people (fun p => if (dget d p).isSome then b2n (X p) else 0) + sm W.places fun q => b2n (T q) * cntV d q := by
  rw [← sm_keys v.nd (fun x hx => (v.fs x hx).1) ok.pn, ← sm_vals (fun x hx => ok.ff _ (v.fs x hx).1 _ (v.fs x hx).2) ok.qn (fun q => b2n (T q)), ← sm_add, sm_len]
  refine sm_le fun x hx => ?_
  obtain ⟨h1, h2⟩ := v.fs x hx
  rcases c x.1 h1 x.2 h2 with h | h
  · rw [h]
    have := (b2n_le (b := T x.2)).1
    show (1 : Int) ≤ 1 + _
    omega
  · rw [h]
    have := (b2n_le (b := X x.1)).1
    show (1 : Int) ≤ _ + 1
    omega
theorem used_le {p : Str} : (if (dget d p).isSome then b2n (X p) else 0) ≤ b2n (X p) := by
  have := (b2n_le (b := X p)).1
  split <;> omega
theorem fill_le (v : Val W d) {q : Str} (hq : q ∈ W.places) : b2n (T q) * (cntV d q : Int) ≤ W.hold q * b2n (T q) := by
  have := v.cp q hq
  cases T q with
  | false => simp [b2n]
  | true =>
    show (1 : Int) * _ ≤ _ * 1
    rw [Int.one_mul, Int.mul_one]
    exact this
theorem weak (ok : Wok W) (v : Val W d) (c : Cov W X T) : (d.length : Int) ≤ wt W X T := by
  have h1 := len_le ok v c
  have h2 := sm_le (l := W.people) (f := fun p => if (dget d p).isSome then b2n (X p) else 0) (g := fun p => b2n (X p)) fun p _ => used_le
  have h3 := sm_le (l := W.places) (f := fun q => b2n (T q) * (cntV d q : Int)) (g := fun q => W.hold q * b2n (T q)) fun q hq => fill_le v hq
  unfold wt
  omega
theorem tight_used (ok : Wok W) (v : Val W d) (c : Cov W X T) (e : wt W X T ≤ d.length) : (∀ p ∈ W.people, X p = true → (dget d p).isSome = true) ∧ ∀ q ∈ W.places, T q = true → (cntV d q : Int) = W.hold q := by
  have h1 := len_le ok v c
  have h2 := sm_le (l := W.people) (f := fun p => if (dget d p).isSome then b2n (X p) else 0) (g := fun p => b2n (X p)) fun p _ => used_le
  have h3 := sm_le (l := W.places) (f := fun q => b2n (T q) * (cntV d q : Int)) (g := fun q => W.hold q * b2n (T q)) fun q hq => fill_le v hq
  unfold wt at e
  refine ⟨fun p hp hx => ?_, fun q hq ht => ?_⟩
  · have := sm_eq_of_le (l := W.people) (f := fun p => if (dget d p).isSome then b2n (X p) else 0) (g := fun p => b2n (X p)) (fun p _ => used_le) (by omega) p hp
    rw [hx] at this
    by_cases z : (dget d p).isSome = true
    · exact z
    · rw [if_neg z] at this
      exact absurd this (by decide)
  · have := sm_eq_of_le (l := W.places) (f := fun q => b2n (T q) * (cntV d q : Int)) (g := fun q => W.hold q * b2n (T q)) (fun q hq => fill_le v hq) (by omega) q hq
    rw [ht] at this
    have e : b2n true = 1 := rfl
    rw [e, Int.one_mul, Int.mul_one] at this
    exact this
/-- the covers' lattice -/
theorem cov_join (c : Cov W X T) {X' T' : Str → Bool} (c' : Cov W X' T') : Cov W (fun p => X p || X' p) (fun q => T q && T' q) := fun p hp q hq => by
  rcases c p hp q hq with h | h <;> rcases c' p hp q hq with h' | h' <;> simp [h, h']
theorem wt_lat {X' T' : Str → Bool} : wt W (fun p => X p || X' p) (fun q => T q && T' q) + wt W (fun p => X p && X' p) (fun q => T q || T' q) = wt W X T + wt W X' T' := by
  unfold wt
  have e1 : sm W.people (fun p => b2n (X p || X' p)) + sm W.people (fun p => b2n (X p && X' p)) = sm W.people (fun p => b2n (X p)) + sm W.people (fun p => b2n (X' p)) := by
    rw [← sm_add, ← sm_add]
    exact sm_congr fun p _ => by cases X p <;> cases X' p <;> rfl
  have e2 : sm W.places (fun q => W.hold q * b2n (T q && T' q)) + sm W.places (fun q => W.hold q * b2n (T q || T' q)) = sm W.places (fun q => W.hold q * b2n (T q)) + sm W.places (fun q => W.hold q * b2n (T' q)) := by
    rw [← sm_add, ← sm_add]
    exact sm_congr fun q _ => by cases T q <;> cases T' q <;> simp [b2n]
  show (sm W.people (fun p => b2n (X p || X' p)) + sm W.places (fun q => W.hold q * b2n (T q && T' q))) + (sm W.people (fun p => b2n (X p && X' p)) + sm W.places (fun q => W.hold q * b2n (T q || T' q))) = _
  omega
theorem cov_meet (c : Cov W X T) {X' T' : Str → Bool} (c' : Cov W X' T') : Cov W (fun p => X p && X' p) (fun q => T q || T' q) := fun p hp q hq => by
  rcases c p hp q hq with h | h <;> rcases c' p hp q hq with h' | h' <;> simp [h, h']
end
end G3
set_option maxRecDepth 100000
set_option maxHeartbeats 4000000
/-! PL4: the two least covers. -/
namespace G3
open PySem PySem.Spec PyProof.Rows L2
/-- who is loose, at greatest dealings of size m -/
structure Lse (W : Wo) (m : Int) (LP LQ : Str → Bool) : Prop where
  ok : Wok W
  dm : ∃ d, Val W d ∧ (d.length : Int) = m
  cm : ∃ X T, Cov W X T ∧ wt W X T = m
  p1 : ∀ p ∈ W.people, LP p = true → W.first p ≠ [] ∧ ∃ d, Val W d ∧ (d.length : Int) = m ∧ dget d p = none
  p0 : ∀ p ∈ W.people, LP p = false → W.first p = [] ∨ ∃ X T, Cov W X T ∧ wt W X T = m ∧ X p = true
  q1 : ∀ q ∈ W.places, LQ q = true → ∃ d, Val W d ∧ (d.length : Int) = m ∧ (cntV d q : Int) < W.hold q
  q0 : ∀ q ∈ W.places, LQ q = false → ∃ X T, Cov W X T ∧ wt W X T = m ∧ T q = true
section
variable {W : Wo} {m : Int} {LP LQ : Str → Bool}
theorem Lse.ge (l : Lse W m LP LQ) {X T : Str → Bool} (c : Cov W X T) : m ≤ wt W X T := by
  obtain ⟨d, v, e⟩ := l.dm
  rw [← e]
  exact weak l.ok v c
theorem Lse.join (l : Lse W m LP LQ) {X T X' T' : Str → Bool} (c : Cov W X T) (e : wt W X T = m) (c' : Cov W X' T') (e' : wt W X' T' = m) : wt W (fun p => X p || X' p) (fun q => T q && T' q) = m ∧ wt W (fun p => X p && X' p) (fun q => T q || T' q) = m := by
  have h1 := l.ge (cov_join c c')
  have h2 := l.ge (cov_meet c c')
  have h3 := wt_lat (W := W) (X := X) (T := T) (X' := X') (T' := T')
  omega
theorem Lse.up (l : Lse W m LP LQ) : ∀ ps : List Str, (∀ p ∈ ps, p ∈ W.people) → ∃ X T, Cov W X T ∧ wt W X T = m ∧ ∀ p ∈ ps, W.first p ≠ [] → LP p = false → X p = true
  | [], _ => by
    obtain ⟨X, T, c, e⟩ := l.cm
    exact ⟨X, T, c, e, fun p h => absurd h (by simp)⟩
  | p :: r, hp => by
    obtain ⟨X, T, c, e, h⟩ := l.up r fun x hx => hp x (List.mem_cons_of_mem _ hx)
    by_cases z : W.first p ≠ [] ∧ LP p = false
    · rcases l.p0 p (hp p List.mem_cons_self) z.2 with y | ⟨X', T', c', e', hx⟩
      · exact absurd y z.1
      · refine ⟨_, _, cov_join c c', (l.join c e c' e').1, fun x hx2 h1 h2 => ?_⟩
        rcases List.mem_cons.mp hx2 with y | y
        · rw [y, hx, Bool.or_true]
        · rw [h x y h1 h2, Bool.true_or]
    · refine ⟨X, T, c, e, fun x hx2 h1 h2 => ?_⟩
      rcases List.mem_cons.mp hx2 with y | y
      · rw [y] at h1 h2
        exact absurd ⟨h1, h2⟩ z
      · exact h x y h1 h2
theorem Lse.down (l : Lse W m LP LQ) : ∀ qs : List Str, (∀ q ∈ qs, q ∈ W.places) → ∃ X T, Cov W X T ∧ wt W X T = m ∧ ∀ q ∈ qs, LQ q = false → T q = true
  | [], _ => by
    obtain ⟨X, T, c, e⟩ := l.cm
    exact ⟨X, T, c, e, fun p h => absurd h (by simp)⟩
  | q :: r, hq => by
    obtain ⟨X, T, c, e, h⟩ := l.down r fun x hx => hq x (List.mem_cons_of_mem _ hx)
    cases z : LQ q with
    | false =>
      obtain ⟨X', T', c', e', hx⟩ := l.q0 q (hq q List.mem_cons_self) z
      refine ⟨_, _, cov_meet c c', (l.join c e c' e').2, fun x hx2 h2 => ?_⟩
      rcases List.mem_cons.mp hx2 with y | y
      · rw [y, hx, Bool.or_true]
      · rw [h x y h2, Bool.true_or]
    | true =>
      refine ⟨X, T, c, e, fun x hx2 h2 => ?_⟩
      rcases List.mem_cons.mp hx2 with y | y
      · rw [y, z] at h2
        cases h2
      · exact h x y h2
def XU (W : Wo) (LP : Str → Bool) (p : Str) : Bool := !(W.first p).isEmpty && !LP p
def TU (W : Wo) (LP : Str → Bool) (q : Str) : Bool := W.people.any fun p => LP p && decide (q ∈ W.first p)
def XD (W : Wo) (LQ : Str → Bool) (p : Str) : Bool := (W.first p).any LQ
def TD (LQ : Str → Bool) (q : Str) : Bool := !LQ q
theorem ne_nil_of {p q : Str} (h : q ∈ W.first p) : (W.first p).isEmpty = false := by
  cases e : W.first p with
  | nil => rw [e] at h; exact absurd h (by simp)
  | cons a r => rfl
theorem cov_U : Cov W (XU W LP) (TU W LP) := fun p hp q hq => by
  cases z : LP p with
  | false => exact .inl (by unfold XU; rw [z, ne_nil_of hq]; rfl)
  | true => exact .inr (List.any_eq_true.mpr ⟨p, hp, by rw [z, decide_eq_true hq]; rfl⟩)
theorem cov_D : Cov W (XD W LQ) (TD LQ) := fun p hp q hq => by
  cases z : LQ q with
  | false => exact .inr (by unfold TD; rw [z]; rfl)
  | true => exact .inl (List.any_eq_true.mpr ⟨q, hq, z⟩)
theorem wt_mono (ok : Wok W) {X T X' T' : Str → Bool} (h1 : ∀ p ∈ W.people, X p = true → X' p = true) (h2 : ∀ q ∈ W.places, T q = true → T' q = true) : wt W X T ≤ wt W X' T' := by
  have a := sm_le (l := W.people) (f := fun p => b2n (X p)) (g := fun p => b2n (X' p)) fun p hp => by
    cases z : X p with
    | false => exact b2n_le.1
    | true => rw [h1 p hp z]; exact Int.le_refl _
  have b := sm_le (l := W.places) (f := fun q => W.hold q * b2n (T q)) (g := fun q => W.hold q * b2n (T' q)) fun q hq => by
    have ho := ok.ho q hq
    cases z : T q with
    | false =>
      cases T' q
      · exact Int.le_refl _
      · show _ * 0 ≤ _ * 1
        rw [Int.mul_zero, Int.mul_one]
        omega
    | true => rw [h2 q hq z]; exact Int.le_refl _
  unfold wt
  omega
theorem Lse.wtU (l : Lse W m LP LQ) : wt W (XU W LP) (TU W LP) = m := by
  have h1 := l.ge (cov_U (W := W) (LP := LP))
  obtain ⟨X, T, c, e, h⟩ := l.up W.people fun _ h => h
  have h2 := wt_mono l.ok (X := XU W LP) (T := TU W LP) (X' := X) (T' := T) (fun p hp hx => by
    obtain ⟨a, b⟩ := Bool.and_eq_true_iff.mp hx
    refine h p hp (fun z => ?_) (by simpa using b)
    rw [z] at a
    cases a) fun q hq ht => by
    obtain ⟨p, hp, hx⟩ := List.any_eq_true.mp ht
    obtain ⟨a, b⟩ := Bool.and_eq_true_iff.mp hx
    obtain ⟨_, d, v, ed, hn⟩ := l.p1 p hp a
    rcases c p hp q (of_decide_eq_true b) with z | z
    · have := (tight_used l.ok v c (by omega)).1 p hp z
      rw [hn] at this
      cases this
    · exact z
  omega
theorem Lse.wtD (l : Lse W m LP LQ) : wt W (XD W LQ) (TD LQ) = m := by
  have h1 := l.ge (cov_D (W := W) (LQ := LQ))
  obtain ⟨X, T, c, e, h⟩ := l.down W.places fun _ h => h
  have h2 := wt_mono l.ok (X := XD W LQ) (T := TD LQ) (X' := X) (T' := T) (fun p hp hx => by
    obtain ⟨q, hq, a⟩ := List.any_eq_true.mp hx
    have hQ := l.ok.ff p hp q hq
    obtain ⟨d, v, ed, hn⟩ := l.q1 q hQ a
    rcases c p hp q hq with z | z
    · exact z
    · have := (tight_used l.ok v c (by omega)).2 q hQ z
      omega) fun q hq ht => h q hq (by unfold TD at ht; simpa using ht)
  omega
theorem Lse.no_loose (l : Lse W m LP LQ) {p q : Str} (hp : p ∈ W.people) (hq : q ∈ W.first p) (h : LP p = true) : LQ q = false := by
  have hQ := l.ok.ff p hp q hq
  cases z : LQ q with
  | false => rfl
  | true =>
    obtain ⟨d, v, ed, hn⟩ := l.q1 q hQ z
    have := (tight_used l.ok v (cov_U (W := W) (LP := LP)) (by rw [l.wtU]; omega)).2 q hQ (List.any_eq_true.mpr ⟨p, hp, by rw [h, decide_eq_true hq]; rfl⟩)
    omega
end
end G3
set_option maxRecDepth 100000
set_option maxHeartbeats 4000000
/-! PL5: the program's look and the law's look are the same. -/
namespace G3
open PySem PySem.Spec PyProof.Rows L2
section
variable {W : Wo} {tp tq : List (Str × Kd)}
theorem cntD_V {d : List (Str × Str)} (nd : (keys d).Nodup) (q : Str) : cntD d q = cntV d q := by
  unfold cntD cntV
  rw [← List.countP_eq_length_filter, List.countP_map, List.countP_map]
  refine List.countP_congr fun x hx => ?_
  have := nd_mem nd (show (x.1, x.2) ∈ d from hx)
  simp [this]
theorem sm_count {α : Type} {l : List α} {b : α → Bool} : (((l.filter b).length : Nat) : Int) = sm l fun a => b2n (b a) := by
  induction l with
  | nil => rfl
  | cons a r ih =>
    rw [sm_cons, ← ih, List.filter_cons]
    cases b a
    · simp [b2n]
    · simp [b2n]; omega
theorem sm_filt {α : Type} {l : List α} {b : α → Bool} {h : α → Int} : ((l.filter b).map h).sum = sm l fun a => h a * b2n (b a) := by
  induction l with
  | nil => rfl
  | cons a r ih =>
    rw [sm_cons, ← ih, List.filter_cons]
    cases b a <;> simp [b2n]
/-- the sorts fit -/
structure FitW (W : Wo) (tp tq : List (Str × Kd)) : Prop where
  pr : ∀ p ∈ W.people, ∀ q ∈ W.first p, (kdP tp p = .loose → kdP tq q = .tight) ∧ (kdP tp p = .paired → kdP tq q ≠ .loose)
  pt : ∀ p ∈ W.people, kdP tp p = .tight → ∃ q ∈ W.first p, kdP tq q = .loose
  pg : ∀ p ∈ W.people, kdP tp p ≠ .paired → W.first p ≠ []
  qt : ∀ q ∈ W.places, kdP tq q = .tight → ∃ p ∈ W.people, q ∈ W.first p ∧ kdP tp p = .loose
theorem bad_iff {a b : Kd} : badPair (a, b) = false ↔ (a = .loose → b = .tight) ∧ (a = .paired → b ≠ .loose) := by
  cases a <;> cases b <;> simp [badPair]
theorem fitB_iff : fitB W tp tq = true ↔ FitW W tp tq := by
  unfold fitB
  rw [Bool.and_eq_true_iff, Bool.and_eq_true_iff, List.all_eq_true, List.all_eq_true, List.all_eq_true]
  have e1 : (∀ x ∈ fpairs W, (!badPair (kdP tp x.1, kdP tq x.2)) = true) ↔ ∀ p ∈ W.people, ∀ q ∈ W.first p, (kdP tp p = .loose → kdP tq q = .tight) ∧ (kdP tp p = .paired → kdP tq q ≠ .loose) := by
    constructor
    · intro h p hp q hq
      have := h (p, q) (List.mem_flatMap.mpr ⟨p, hp, List.mem_map.mpr ⟨q, hq, rfl⟩⟩)
      rw [Bool.not_eq_true'] at this
      exact bad_iff.mp this
    · intro h x hx
      obtain ⟨p, hp, hx⟩ := List.mem_flatMap.mp hx
      obtain ⟨q, hq, rfl⟩ := List.mem_map.mp hx
      rw [Bool.not_eq_true']
      exact bad_iff.mpr (h p hp q hq)
  have e2 : ∀ p, fitP W tp tq p = true ↔ (kdP tp p = .tight → ∃ q ∈ W.first p, kdP tq q = .loose) ∧ (kdP tp p ≠ .paired → W.first p ≠ []) := by
    intro p
    unfold fitP
    rw [Bool.and_eq_true_iff, Bool.not_eq_true', Bool.not_eq_true', Bool.and_eq_false_iff, Bool.and_eq_false_iff, Bool.not_eq_false', Bool.not_eq_false', decide_eq_false_iff_not, decide_eq_true_iff, decide_eq_true_iff, List.mem_map]
    constructor
    · rintro ⟨h1, h2⟩
      refine ⟨fun h => h1.elim (fun z => absurd h z) fun z => z, fun h z => ?_⟩
      rcases h2 with h2 | h2
      · exact h h2
      · rw [z] at h2
        cases h2
    · rintro ⟨h1, h2⟩
      refine ⟨?_, ?_⟩
      · by_cases z : kdP tp p = .tight
        · exact .inr (h1 z)
        · exact .inl z
      · by_cases z : kdP tp p = .paired
        · exact .inl z
        · refine .inr ?_
          cases e : W.first p with
          | nil => exact absurd e (h2 z)
          | cons a r => rfl
  have e3 : ∀ q, fitQ W tp tq q = true ↔ (kdP tq q = .tight → ∃ p ∈ W.people, q ∈ W.first p ∧ kdP tp p = .loose) := by
    intro q
    unfold fitQ
    rw [Bool.not_eq_true', Bool.and_eq_false_iff, Bool.not_eq_false', decide_eq_false_iff_not, decide_eq_true_iff, List.mem_map]
    have e4 : (∃ x ∈ (fpairs W).filter fun x => decide (x.2 = q), kdP tp x.1 = .loose) ↔ ∃ p ∈ W.people, q ∈ W.first p ∧ kdP tp p = .loose := by
      constructor
      · rintro ⟨x, hx, h⟩
        obtain ⟨hx, e⟩ := List.mem_filter.mp hx
        obtain ⟨p, hp, hx⟩ := List.mem_flatMap.mp hx
        obtain ⟨q', hq, rfl⟩ := List.mem_map.mp hx
        have e : q' = q := of_decide_eq_true e
        subst e
        exact ⟨p, hp, hq, h⟩
      · rintro ⟨p, hp, hq, h⟩
        exact ⟨(p, q), List.mem_filter.mpr ⟨List.mem_flatMap.mpr ⟨p, hp, List.mem_map.mpr ⟨q, hq, rfl⟩⟩, decide_eq_true rfl⟩, h⟩
    rw [e4]
    constructor
    · rintro (h | h) z
      · exact absurd z h
      · exact h
    · intro h
      by_cases z : kdP tq q = .tight
      · exact .inr (h z)
      · exact .inl z
  rw [e1]
  constructor
  · rintro ⟨h1, h2, h3⟩
    exact ⟨h1, fun p hp => ((e2 p).mp (h2 p hp)).1, fun p hp => ((e2 p).mp (h2 p hp)).2, fun q hq => (e3 q).mp (h3 q hq)⟩
  · intro h
    exact ⟨h.pr, fun p hp => (e2 p).mpr ⟨h.pt p hp, h.pg p hp⟩, fun q hq => (e3 q).mpr (h.qt q hq)⟩
theorem lawfit_iff : ((W.people.all fun p => !badRow W tp tq p) && (W.places.all fun q => !badSpot W tp tq q)) = true ↔ FitW W tp tq := by
  rw [Bool.and_eq_true_iff, List.all_eq_true, List.all_eq_true]
  have e2 : ∀ p, (!badRow W tp tq p) = true ↔ (∀ q ∈ W.first p, (kdP tp p = .loose → kdP tq q = .tight) ∧ (kdP tp p = .paired → kdP tq q ≠ .loose)) ∧ (kdP tp p = .tight → ∃ q ∈ W.first p, kdP tq q = .loose) ∧ (kdP tp p ≠ .paired → W.first p ≠ []) := by
    intro p
    rw [Bool.not_eq_true']
    unfold badRow kindsP
    cases hk : kdP tp p with
    | loose =>
      simp only [decide_true, Bool.true_and, reduceCtorEq, decide_false, Bool.false_and, Bool.or_false, Bool.or_eq_false_iff, Bool.not_eq_false', List.isEmpty_iff, List.filter_eq_nil_iff, forall_const, false_implies, and_true, ne_eq, not_false_eq_true, true_and]
      constructor
      · rintro ⟨h1, h2⟩
        refine ⟨fun q hq => ?_, fun z => by rw [z] at h2; cases h2⟩
        have := h1 _ (List.mem_map.mpr ⟨q, hq, rfl⟩)
        simpa using this
      · rintro ⟨h1, h2⟩
        refine ⟨fun k hk => ?_, ?_⟩
        · obtain ⟨q, hq, rfl⟩ := List.mem_map.mp hk
          simpa using h1 q hq
        · cases e : W.first p with
          | nil => exact absurd e h2
          | cons a r => rfl
    | tight =>
      simp only [decide_true, Bool.true_and, reduceCtorEq, decide_false, Bool.false_and, Bool.or_false, Bool.false_or, Bool.not_eq_false', decide_eq_true_iff, List.mem_map, forall_const, false_implies, and_true, ne_eq, not_false_eq_true, true_and, implies_true]
      constructor
      · rintro ⟨q, hq, h⟩
        exact ⟨⟨q, hq, h⟩, fun z => by rw [z] at hq; exact absurd hq (by simp)⟩
      · rintro ⟨h, _⟩
        exact h
    | paired =>
      simp only [decide_true, Bool.true_and, reduceCtorEq, decide_false, Bool.false_and, Bool.or_false, Bool.false_or, decide_eq_false_iff_not, List.mem_map, forall_const, false_implies, and_true, ne_eq, not_true_eq_false, true_and, not_exists, not_and]
  have e3 : ∀ q, (!badSpot W tp tq q) = true ↔ (kdP tq q = .tight → ∃ p ∈ W.people, q ∈ W.first p ∧ kdP tp p = .loose) := by
    intro q
    rw [Bool.not_eq_true']
    unfold badSpot kindsQ
    rw [Bool.and_eq_false_iff, Bool.not_eq_false', decide_eq_false_iff_not, decide_eq_true_iff, List.mem_map]
    constructor
    · rintro (h | ⟨p, h, e⟩) z
      · exact absurd z h
      · obtain ⟨h1, h2⟩ := List.mem_filter.mp h
        exact ⟨p, h1, of_decide_eq_true h2, e⟩
    · intro h
      by_cases z : kdP tq q = .tight
      · obtain ⟨p, h1, h2, h3⟩ := h z
        exact .inr ⟨p, List.mem_filter.mpr ⟨h1, decide_eq_true h2⟩, h3⟩
      · exact .inl z
  constructor
  · rintro ⟨h2, h3⟩
    exact ⟨fun p hp => ((e2 p).mp (h2 p hp)).1, fun p hp => ((e2 p).mp (h2 p hp)).2.1, fun p hp => ((e2 p).mp (h2 p hp)).2.2, fun q hq => (e3 q).mp (h3 q hq)⟩
  · intro h
    exact ⟨fun p hp => (e2 p).mpr ⟨h.pr p hp, h.pt p hp, h.pg p hp⟩, fun q hq => (e3 q).mpr (h.qt q hq)⟩
end
end G3
set_option maxRecDepth 100000
set_option maxHeartbeats 4000000
/-! PL6: the two looks are one. -/
namespace G3
open PySem PySem.Spec PyProof.Rows L2
section
variable {W : Wo} {tp tq : List (Str × Kd)} {d0 : List (Str × Str)} {pp pq : List (Str × List (Str × Str))}
/-- how many are told to be dealt, and the paired ones -/
def sT (W : Wo) (tp : List (Str × Kd)) : Int := sm W.people fun p => b2n (decide (kdP tp p = .tight))
def sP (W : Wo) (tp : List (Str × Kd)) : Int := sm W.people fun p => b2n (decide (kdP tp p = .paired) && !(W.first p).isEmpty)
def hK (W : Wo) (tq : List (Str × Kd)) (k : Kd) : Int := sm W.places fun q => W.hold q * b2n (decide (kdP tq q = k))
theorem pwg_eq : pwg W tp = sP W tp := sm_count
theorem hw_eq {k : Kd} : hw W tq k = hK W tq k := sm_filt
theorem manyF_eq (kp : keys tp = W.people) : manyF W tp tq = sP W tp + hK W tq .tight + sT W tp := by
  unfold manyF
  rw [pwg_eq, hw_eq, kp]
  congr 1
  exact sm_count
theorem lmany_eq (pre : PreW W) : lmany W tp tq = sP W tp + hK W tq .tight + sT W tp := by
  unfold lmany
  rw [sm_count, sm_filt]
  have e1 : sm W.people (fun p => b2n (decide (kdP tp p = .tight) || (decide (kdP tp p = .paired) && !(W.first p).isEmpty))) = sT W tp + sP W tp := by
    unfold sT sP
    rw [← sm_add]
    refine sm_congr fun p _ => ?_
    cases kdP tp p <;> simp [b2n]
  have e2 : sm W.spots (fun r => r.2 * b2n (decide (kdP tq r.1 = .tight))) = hK W tq .tight := by
    unfold hK sm Wo.places
    rw [List.map_map]
    congr 1
    refine List.map_congr_left fun r hr => ?_
    have h := nd_mem pre.spots.nd (show (r.1, r.2) ∈ W.spots from hr)
    show _ = W.hold r.1 * _
    unfold Wo.hold
    rw [h]
    rfl
  rw [e1, e2]
  omega
theorem lfit_fit (pre : PreT W tp tq) (h : FitW W tp tq) : lfit W tp tq = if sP W tp = hK W tq .paired then some (sP W tp + hK W tq .tight + sT W tp) else none := by
  unfold lfit
  rw [if_pos (lawfit_iff.mpr h)]
  have e1 : (W.people.map (pairP W tp)).sum = sP W tp := rfl
  have e2 : (W.places.map (pairQ W tq)).sum = hK W tq .paired := rfl
  have e3 : (W.places.map (manyQ W tq)).sum = hK W tq .tight := rfl
  have e4 : (W.people.map (manyP W tp)).sum = sP W tp + sT W tp := by
    show sm W.people (manyP W tp) = _
    unfold sT sP
    rw [← sm_add]
    refine sm_congr fun p hp => ?_
    unfold manyP
    cases z : kdP tp p with
    | loose => simp [b2n]
    | paired => simp [b2n]
    | tight =>
      have := h.pg p hp (by rw [z]; decide)
      have : (W.first p).isEmpty = false := by
        cases e : W.first p with
        | nil => exact absurd e this
        | cons a r => rfl
      simp [b2n, this]
  rw [e1, e2, e3, e4]
  by_cases z : sP W tp = hK W tq .paired
  · rw [if_pos z, if_pos (by omega)]
    congr 1
    omega
  · rw [if_neg z, if_neg (by omega)]
theorem looks (pw : PreW W) (pre : PreH W tp tq d0 pp pq) : holdB W tp tq d0 pp pq = lawB W tp tq d0 pp pq := by
  have eq1 : (pq.all fun x => decide ((cntD x.2 x.1 : Int) < W.hold x.1)) = pq.all fun x => decide ((cntV x.2 x.1 : Int) < W.hold x.1) := by
    rw [Bool.eq_iff_iff, List.all_eq_true, List.all_eq_true]
    constructor
    · intro h x hx
      have := h x hx
      rwa [cntD_V (pre.vq x hx).nd] at this
    · intro h x hx
      rw [cntD_V (pre.vq x hx).nd]
      exact h x hx
  unfold holdB lawB
  rw [eq1, manyF_eq pre.kp, pwg_eq, hw_eq]
  by_cases h : FitW W tp tq
  · rw [fitB_iff.mpr h, lfit_fit pre.toPreT h]
    by_cases z : sP W tp = hK W tq .paired
    · rw [if_pos z, decide_eq_true z]
      simp only [Bool.true_and, Bool.and_assoc]
    · rw [if_neg z, decide_eq_false z]
      rfl
  · have e : fitB W tp tq = false := by
      rw [← Bool.not_eq_true]
      exact fun z => h (fitB_iff.mp z)
    rw [e]
    have e2 : lfit W tp tq = none := by
      unfold lfit
      rw [if_neg fun z => h (lawfit_iff.mp z)]
    rw [e2]
    rfl
theorem ask_eq (pre : PreS W) (pt : PreT W tp tq) : askF W tp tq (fdsF W) = some (holdB W tp tq (bestF (fdsF W) (lmany W tp tq)) (paperP tp (fdsF W) (lmany W tp tq)) (paperQ W tq (fdsF W) (lmany W tp tq))) := by
  unfold askF
  dsimp only
  rw [if_pos (looks pre.pre (preH_of pre.pre pt (preD_of pre) _))]
theorem law_AL (W : Wo) (tp tq : List (Str × Kd)) (pre : PreS W) (pt : PreT W tp tq) : ∃ b, askF W tp tq (fdsF W) = some b := ⟨_, ask_eq pre pt⟩
end
end G3
set_option maxRecDepth 100000
set_option maxHeartbeats 4000000
/-! PL7: what a way and a closing mean for the count. -/
namespace G3
open PySem PySem.Spec PyProof.Rows L2
/-- a dealing of firsts within given rooms -/
structure VR (W : Wo) (r : Str → Int) (d : List (Str × Str)) : Prop where
  nd : (keys d).Nodup
  fs : ∀ p q, dget d p = some q → p ∈ W.people ∧ q ∈ W.first p
  cp : ∀ q ∈ W.places, (occ W.people (dget d) q : Int) ≤ r q
def RoomsAre (W : Wo) (rooms : List (Str × Int)) (r : Str → Int) : Prop := ∀ q ∈ W.places, dget rooms q = some (r q)
def isIn (d : List (Str × Str)) (p : Str) : Int := if (dget d p).isSome then 1 else 0
section
variable {W : Wo} {r : Str → Int} {d d' : List (Str × Str)} {rooms : List (Str × Int)} {starts : List Str} {came : List (Str × Option Str)} {looked : List (Str × Str)} {q : Str} {S T : List Str}
theorem occ_sm {P : List Str} {f : Str → Option Str} {q : Str} : (occ P f q : Int) = sm P fun p => b2n (decide (f p = some q)) := by
  unfold occ
  rw [List.countP_eq_length_filter, sm_count]
theorem cnt_occ (nd : (keys d).Nodup) {P : List Str} (hP : ∀ x ∈ d, x.1 ∈ P) (nP : P.Nodup) : (cntV d q : Int) = occ P (dget d) q := by
  rw [sm_cnt, occ_sm, sm_congr (g := fun x : Str × Str => (fun p => b2n (decide (dget d p = some q))) x.1) fun x hx => by
    show _ = b2n (decide (dget d x.1 = some q))
    rw [nd_mem nd (show (x.1, x.2) ∈ d from hx)]
    simp, sm_keys nd hP nP fun p => b2n (decide (dget d p = some q))]
  refine sm_congr fun p _ => ?_
  cases dget d p with
  | none => simp [b2n]
  | some y => simp
theorem len_in (nd : (keys d).Nodup) {P : List Str} (hP : ∀ x ∈ d, x.1 ∈ P) (nP : P.Nodup) : (d.length : Int) = sm P (isIn d) := by
  rw [sm_len]
  exact sm_keys nd hP nP fun _ => 1
theorem VR.at (v : VR W r d) : ∀ x ∈ d, x.1 ∈ W.people ∧ x.2 ∈ W.first x.1 := fun x hx => v.fs x.1 x.2 (nd_mem v.nd (show (x.1, x.2) ∈ d from hx))
theorem VR.len (ok : Wok W) (v : VR W r d) : (d.length : Int) = sm W.people (isIn d) := len_in v.nd (fun x hx => (v.at x hx).1) ok.pn
theorem VR.cnt (ok : Wok W) (v : VR W r d) : (cntV d q : Int) = occ W.people (dget d) q := cnt_occ v.nd (fun x hx => (v.at x hx).1) ok.pn
theorem VR.val (ok : Wok W) (v : VR W W.hold d) : Val W d := ⟨v.nd, v.at, fun q hq => by
  have := v.cp q hq
  rw [← v.cnt ok] at this
  exact this⟩
theorem Val.vr (ok : Wok W) (v : Val W d) : VR W W.hold d := ⟨v.nd, fun p q h => v.fs (p, q) (dget_mem h), fun q hq => by
  rw [← cnt_occ v.nd (fun x hx => (v.fs x hx).1) ok.pn]
  exact v.cp q hq⟩
theorem VR.mono {r' : Str → Int} (v : VR W r d) (h : ∀ q ∈ W.places, r q ≤ r' q) : VR W r' d := ⟨v.nd, v.fs, fun q hq => Int.le_trans (v.cp q hq) (h q hq)⟩
theorem VR.keys (v : VR W r d) : ∀ p ∈ keys d, p ∈ W.people := fun p hp => by
  obtain ⟨q, h⟩ := Option.isSome_iff_exists.mp (dget_isSome.mpr hp)
  exact (v.fs p q h).1
theorem VR.room (ok : Wok W) (v : VR W r d) (hr : RoomsAre W rooms r) (hq : q ∈ W.places) : hasRoom rooms d q = decide ((occ W.people (dget d) q : Int) < r q) := by
  unfold hasRoom
  rw [hr q hq, cntD_V v.nd, v.cnt ok]
  rfl
theorem way_step (ok : Wok W) (v : VR W r d) (hr : RoomsAre W rooms r) (hs : ∀ s ∈ starts, s ∈ W.people) (w : Way (fw W) rooms d starts came looked q) (h : RLed d came looked (some q) d') :
    VR W r d' ∧ (d'.length : Int) = d.length + 1 ∧ ∃ s ∈ starts, dget d s = none ∧ ∀ x, (dget d' x).isSome = ((dget d x).isSome || decide (x = s)) := by
  obtain ⟨s, hs2, L, p, hq⟩ := way_led ok.pn hs v.keys w h
  have hQ : q ∈ W.places := ok.rm p q hq
  have v' : VR W r d' := ⟨L.nd v.nd, fun x y e => by
    rcases L.wh x y e with z | z
    · exact v.fs x y z
    · rw [wsOf_fw] at z
      split at z
      · next hx => exact ⟨hx, z⟩
      · exact absurd z (by simp), fun y hy => by
    have h1 := v.cp y hy
    have h2 := L.oc y
    by_cases z : y = q
    · have h3 := w.room
      rw [v.room ok hr hQ] at h3
      have h3 := of_decide_eq_true h3
      rw [if_pos z] at h2
      rw [z] at h1 h2 ⊢
      omega
    · rw [if_neg z] at h2
      omega⟩
  refine ⟨v', ?_, s, hs2, L.no, L.dom⟩
  rw [v'.len ok, v.len ok]
  have h1 := sm_one ok.pn (hs s hs2) (x := (1 : Int))
  rw [← h1, ← sm_add]
  refine sm_congr fun x _ => ?_
  unfold isIn
  rw [L.dom x]
  by_cases z : x = s
  · rw [if_pos z, z, L.no]
    simp
  · rw [if_neg z, decide_eq_false z, Bool.or_false]
    omega
theorem Clo.pl (ok : Wok W) (c : Clo (fw W) rooms d starts S T) : ∀ q ∈ T, q ∈ W.places := fun q hq => by
  obtain ⟨p, _, h⟩ := c.wh q hq
  exact ok.rm p q h
theorem clo_over (ok : Wok W) (v : VR W r d) (hr : RoomsAre W rooms r) (c : Clo (fw W) rooms d starts S T) {S0 T0 : Str → Bool} (h0 : ∀ p ∈ W.people, S0 p = true → ∀ q ∈ W.first p, T0 q = true) :
    (sm W.places fun q => r q * b2n (decide (q ∈ T) && !T0 q)) ≤ sm W.people fun p => if (dget d p).isSome then b2n (decide (p ∈ S) && !S0 p) else 0 := by
  have h1 : (sm W.places fun q => r q * b2n (decide (q ∈ T) && !T0 q)) ≤ sm W.places fun q => b2n (decide (q ∈ T) && !T0 q) * cntV d q := sm_le fun q hq => by
    by_cases z : q ∈ T
    · have h2 := c.full q z
      rw [v.room ok hr hq] at h2
      have h2 := of_decide_eq_false h2
      rw [v.cnt ok]
      rw [decide_eq_true z]
      cases T0 q
      · show _ * 1 ≤ 1 * _
        omega
      · show _ * 0 ≤ 0 * _
        omega
    · rw [decide_eq_false z]
      show _ * 0 ≤ 0 * _
      omega
  refine Int.le_trans h1 ?_
  rw [← sm_vals (fun x hx => ok.ff _ (v.at x hx).1 _ (v.at x hx).2) ok.qn (fun q => b2n (decide (q ∈ T) && !T0 q)), ← sm_keys v.nd (fun x hx => (v.at x hx).1) ok.pn fun p => b2n (decide (p ∈ S) && !S0 p)]
  refine sm_le fun x hx => ?_
  obtain ⟨hp, hq⟩ := v.at x hx
  by_cases z : x.2 ∈ T
  · have hS : x.1 ∈ S := c.all x.2 z x.1 (nd_mem v.nd (show (x.1, x.2) ∈ d from hx))
    rw [decide_eq_true z, decide_eq_true hS]
    cases h2 : S0 x.1 with
    | false =>
      have := (b2n_le (b := !T0 x.2)).2
      exact this
    | true =>
      rw [h0 x.1 hp h2 x.2 hq]
      exact Int.le_refl _
  · rw [decide_eq_false z]
    exact (b2n_le (b := _)).1
theorem clo_wt (ok : Wok W) (v : VR W r d) (hr : RoomsAre W rooms r) (c : Clo (fw W) rooms d starts S T) :
    (sm W.places fun q => r q * b2n (decide (q ∈ T))) ≤ sm W.people fun p => if (dget d p).isSome then b2n (decide (p ∈ S)) else 0 := by
  have h := clo_over ok v hr c (S0 := fun _ => false) (T0 := fun _ => false) (fun _ _ h => nomatch h)
  simpa using h
theorem clo_cov (c : Clo (fw W) rooms d starts S T) : Cov W (fun p => !decide (p ∈ S)) fun q => decide (q ∈ T) := fun p hp q hq => by
  by_cases z : p ∈ S
  · refine .inr (decide_eq_true (c.go p z q ?_))
    rw [wsOf_fw, if_pos hp]
    exact hq
  · exact .inl (by simp [z])
end
end G3
set_option maxRecDepth 100000
set_option maxHeartbeats 4000000
/-! PL8: a grown dealing is greatest; what is found without one. -/
namespace G3
open PySem PySem.Spec PyProof.Rows L2
section
variable {W : Wo} {r : Str → Int} {d d' : List (Str × Str)} {rooms : List (Str × Int)} {starts : List Str} {came : List (Str × Option Str)} {looked : List (Str × Str)} {q : Str} {S T : List Str}
theorem ro_are : RoomsAre W (ro W) W.hold := fun q hq => by rw [dget_ro, if_pos hq]
theorem ord_nd (ok : Wok W) : (keys (ordF W d)).Nodup := by
  rw [keys_ord]
  exact ok.pn.filter _
theorem ord_get (ok : Wok W) (v : VR W r d) (p : Str) : dget (ordF W d) p = dget d p := by
  cases e : dget d p with
  | none =>
    refine dget_none.mpr fun h => ?_
    rw [keys_ord] at h
    have := (List.mem_filter.mp h).2
    rw [e] at this
    cases this
  | some q =>
    refine nd_mem (ord_nd ok) (List.mem_filterMap.mpr ⟨p, (v.fs p q e).1, ?_⟩)
    rw [e]
    rfl
theorem ord_vr (ok : Wok W) (v : VR W r d) : VR W r (ordF W d) ∧ ((ordF W d).length : Int) = d.length := by
  have v' : VR W r (ordF W d) := ⟨ord_nd ok, fun p q h => v.fs p q (by rw [ord_get ok v] at h; exact h), fun q hq => by
    have e : occ W.people (dget (ordF W d)) q = occ W.people (dget d) q := occ_congr fun p _ => ord_get ok v p
    rw [e]
    exact v.cp q hq⟩
  refine ⟨v', ?_⟩
  rw [v'.len ok, v.len ok]
  exact sm_congr fun p _ => by unfold isIn; rw [ord_get ok v]
structure GI (W : Wo) (ps : List Str) (d : List (Str × Str)) : Prop where
  v : VR W W.hold d
  sub : ∀ p ∈ keys d, p ∈ ps
  c : ∃ S T : Str → Bool, (∀ p, S p = true → p ∈ ps) ∧ (∀ p ∈ ps, dget d p = none → S p = true) ∧ (∀ p ∈ W.people, S p = true → ∀ q ∈ W.first p, T q = true) ∧ (sm W.places fun q => W.hold q * b2n (T q)) ≤ sm W.people fun p => if (dget d p).isSome then b2n (S p) else 0
theorem vr_nil (ok : Wok W) : VR W W.hold [] := ⟨List.nodup_nil, fun p q h => (nomatch h), fun q hq => by
  have : (occ W.people (dget ([] : List (Str × Str))) q : Int) = 0 := by
    rw [occ_sm]
    exact (sm_congr (g := fun _ => 0) fun p _ => rfl).trans sm_zero
  have := ok.ho q hq
  omega⟩
theorem grow_inv (ok : Wok W) {ps : List Str} (g : Grow (fw W) (ro W) ps d) : ps.Nodup → (∀ p ∈ ps, p ∈ W.people) → GI W ps d := by
  induction g with
  | nil =>
    intro _ _
    refine ⟨vr_nil ok, fun p h => absurd h (by simp [G3.keys]), fun _ => false, fun _ => false, fun p h => (nomatch h), fun p h => absurd h (by simp), fun _ _ h => (nomatch h), ?_⟩
    have z1 : (sm W.places fun q => W.hold q * b2n ((fun _ => false : Str → Bool) q)) = 0 := (sm_congr (g := fun _ => 0) fun q _ => Int.mul_zero _).trans sm_zero
    have z2 : (sm W.people fun p => if (dget ([] : List (Str × Str)) p).isSome then b2n ((fun _ => false : Str → Bool) p) else 0) = 0 := (sm_congr (g := fun _ => 0) fun p _ => rfl).trans sm_zero
    rw [z1, z2]
    exact Int.le_refl _
  | @no ps d p S1 T1 _ c ih =>
    intro hn hp
    obtain ⟨n1, _, n2⟩ := List.nodup_append.mp hn
    obtain ⟨v, sub, S, T, h1, h2, h3, h4⟩ := ih n1 fun x hx => hp x (List.mem_append_left _ hx)
    refine ⟨v, fun x hx => List.mem_append_left _ (sub x hx), fun x => S x || decide (x ∈ S1), fun x => T x || decide (x ∈ T1), fun x hx => ?_, fun x hx he => ?_, fun x hx hs y hy => ?_, ?_⟩
    · rcases Bool.or_eq_true_iff.mp hx with z | z
      · exact List.mem_append_left _ (h1 x z)
      · rcases c.inn x (of_decide_eq_true z) with z | ⟨q, z⟩
        · exact List.mem_append_right _ z
        · exact List.mem_append_left _ (sub x (dget_key z))
    · show (S x || decide (x ∈ S1)) = true
      rcases List.mem_append.mp hx with z | z
      · rw [h2 x z he, Bool.true_or]
      · rw [decide_eq_true (c.st x z), Bool.or_true]
    · show (T y || decide (y ∈ T1)) = true
      rcases Bool.or_eq_true_iff.mp hs with z | z
      · rw [h3 x hx z y hy, Bool.true_or]
      · have : y ∈ T1 := c.go x (of_decide_eq_true z) y (by rw [wsOf_fw, if_pos hx]; exact hy)
        rw [decide_eq_true this, Bool.or_true]
    · have h5 := clo_over ok v ro_are c h3
      have e1 : (sm W.places fun q => W.hold q * b2n (T q || decide (q ∈ T1))) = (sm W.places fun q => W.hold q * b2n (T q)) + sm W.places fun q => W.hold q * b2n (decide (q ∈ T1) && !T q) := by
        rw [← sm_add]
        refine sm_congr fun q _ => ?_
        cases T q <;> cases decide (q ∈ T1) <;> simp [b2n]
      have e2 : (sm W.people fun x => if (dget d x).isSome then b2n (S x || decide (x ∈ S1)) else 0) = (sm W.people fun x => if (dget d x).isSome then b2n (S x) else 0) + sm W.people fun x => if (dget d x).isSome then b2n (decide (x ∈ S1) && !S x) else 0 := by
        rw [← sm_add]
        refine sm_congr fun x _ => ?_
        cases S x <;> cases decide (x ∈ S1) <;> cases (dget d x).isSome <;> simp [b2n]
      rw [e1, e2]
      omega
  | @yes ps d d' p came looked q _ w h ih =>
    intro hn hp
    obtain ⟨n1, _, n2⟩ := List.nodup_append.mp hn
    obtain ⟨v, sub, S, T, h1, h2, h3, h4⟩ := ih n1 fun x hx => hp x (List.mem_append_left _ hx)
    obtain ⟨v', _, s, hs, hs2, hd⟩ := way_step ok v ro_are (fun s hs => hp s (List.mem_append_right _ hs)) w h
    have es : s = p := List.mem_singleton.mp hs
    subst es
    refine ⟨v', fun x hx => ?_, S, T, fun x hx => List.mem_append_left _ (h1 x hx), fun x hx he => ?_, h3, Int.le_trans h4 (sm_le fun x _ => ?_)⟩
    · have := dget_isSome.mpr hx
      rw [hd] at this
      rcases Bool.or_eq_true_iff.mp this with z | z
      · exact List.mem_append_left _ (sub x (dget_isSome.mp z))
      · exact List.mem_append_right _ (List.mem_singleton.mpr (of_decide_eq_true z))
    · have := hd x
      rw [he] at this
      have := Bool.or_eq_false_iff.mp this.symm
      rcases List.mem_append.mp hx with z | z
      · refine h2 x z ?_
        cases e : dget d x with
        | none => rfl
        | some y =>
          rw [e] at this
          cases this.1
      · rw [List.mem_singleton.mp z] at this
        exact absurd rfl (of_decide_eq_false this.2)
    · rw [hd]
      have := (b2n_le (b := S x)).1
      cases (dget d x).isSome with
      | true => exact Int.le_refl _
      | false =>
        show (0 : Int) ≤ if _ then _ else _
        split
        · exact this
        · exact Int.le_refl _
/-- a greatest dealing, with a cover that shows it -/
structure Top (W : Wo) (m : Int) (d : List (Str × Str)) : Prop where
  v : VR W W.hold d
  len : (d.length : Int) = m
  cm : ∃ X T, Cov W X T ∧ wt W X T = m
theorem grow_end (ok : Wok W) (g : Grow (fw W) (ro W) W.people d) : Top W d.length d := by
  obtain ⟨v, sub, S, T, h1, h2, h3, h4⟩ := grow_inv ok g ok.pn fun _ h => h
  have c : Cov W (fun p => !S p) T := fun p hp q hq => by
    cases z : S p with
    | false => exact .inl (show (!S p) = true by rw [z]; rfl)
    | true => exact .inr (h3 p hp z q hq)
  have h5 := weak ok (v.val ok) c
  refine ⟨v, rfl, _, _, c, ?_⟩
  have h6 : sm W.people (fun p => b2n (!S p)) + (sm W.people fun p => if (dget d p).isSome then b2n (S p) else 0) = d.length := by
    rw [v.len ok, ← sm_add]
    refine sm_congr fun p hp => ?_
    unfold isIn
    cases z : S p with
    | true => cases (dget d p).isSome <;> rfl
    | false =>
      cases e : dget d p with
      | none =>
        rw [h2 p hp e] at z
        cases z
      | some y => rfl
  unfold wt at h5 ⊢
  dsimp only at h5 ⊢
  omega
theorem Top.le (ok : Wok W) {m : Int} (t : Top W m d) (v : VR W W.hold d') : (d'.length : Int) ≤ m := by
  obtain ⟨X, T, c, e⟩ := t.cm
  rw [← e]
  exact weak ok (v.val ok) c
theorem Top.ge (ok : Wok W) {m : Int} (t : Top W m d) {X T : Str → Bool} (c : Cov W X T) : m ≤ wt W X T := by
  rw [← t.len]
  exact weak ok (t.v.val ok) c
theorem Top.ord (ok : Wok W) {m : Int} (t : Top W m d) : Top W m (ordF W d) := ⟨(ord_vr ok t.v).1, by rw [(ord_vr ok t.v).2, t.len], t.cm⟩
theorem drop_vr (v : VR W r d) (p : Str) : VR W r (ddrop d p) := ⟨nd_drop v.nd, fun x y h => by
  rw [dget_drop] at h
  split at h
  · cases h
  · exact v.fs x y h, fun q hq => by
  refine Int.le_trans ?_ (v.cp q hq)
  rw [occ_sm, occ_sm]
  refine sm_le fun x _ => ?_
  rw [dget_drop]
  split
  · exact (b2n_le (b := _)).1
  · exact Int.le_refl _⟩
theorem drop_lenI (ok : Wok W) (v : VR W r d) {p : Str} (hp : p ∈ W.people) : ((ddrop d p).length : Int) + isIn d p = d.length := by
  rw [(drop_vr v p).len ok, v.len ok, ← sm_one ok.pn hp (x := isIn d p), ← sm_add]
  refine sm_congr fun x _ => ?_
  unfold isIn
  rw [dget_drop]
  by_cases z : x = p
  · rw [if_pos z, if_pos z, z]
    simp
  · rw [if_neg z, if_neg z]
    omega
/-- a closing shows a cover -/
theorem clo_le (ok : Wok W) (v : VR W r d) (hr : RoomsAre W rooms r) (c : Clo (fw W) rooms d starts S T) {f : Str → Int} (h : ∀ x ∈ W.people, x ∉ S → dget d x = none → 1 ≤ f x) (h0 : ∀ x ∈ W.people, 0 ≤ f x) :
    (sm W.people fun p => b2n (!decide (p ∈ S))) + (sm W.places fun q => r q * b2n (decide (q ∈ T))) ≤ d.length + sm W.people f := by
  have h1 := clo_wt ok v hr c
  have h2 : (sm W.people fun p => b2n (!decide (p ∈ S))) + (sm W.people fun p => if (dget d p).isSome then b2n (decide (p ∈ S)) else 0) ≤ d.length + sm W.people f := by
    rw [v.len ok, ← sm_add, ← sm_add]
    refine sm_le fun x hx => ?_
    have := h0 x hx
    unfold isIn
    by_cases z : x ∈ S
    · rw [decide_eq_true z]
      show (0 : Int) + (if _ then 1 else 0) ≤ _
      omega
    · rw [decide_eq_false z]
      cases e : dget d x with
      | none =>
        have := h x hx z e
        show (1 : Int) + 0 ≤ 0 + _
        omega
      | some y =>
        show (1 : Int) + 0 ≤ 1 + _
        omega
  omega
theorem out_case (ok : Wok W) {m : Int} {whole y : List (Str × Str)} (t : Top W m whole) {p : Str} (hp : p ∈ W.people) (h : RFW W whole (some p) none y) :
    VR W W.hold y ∧ dget y p = none ∧ ((y.length : Int) = m ∨ ∃ X T, Cov W X T ∧ wt W X T = m ∧ X p = true) := by
  have h : (∃ S T, Clo (fw W) (ro W) (ddrop whole p) (leftL W (ddrop whole p) (some p)) S T ∧ y = ordF W (ddrop whole p)) ∨ ∃ came looked q d', Way (fw W) (ro W) (ddrop whole p) (leftL W (ddrop whole p) (some p)) came looked q ∧ RLed (ddrop whole p) came looked (some q) d' ∧ y = ordF W d' := h
  have v := drop_vr t.v p
  have hl := drop_lenI ok t.v hp
  have hn : dget (ddrop whole p) p = none := by rw [dget_drop, if_pos rfl]
  rcases h with ⟨S, T, c, rfl⟩ | ⟨came, looked, q, d', w, hd, rfl⟩
  · obtain ⟨v1, l1⟩ := ord_vr ok v
    refine ⟨v1, by rw [ord_get ok v, hn], ?_⟩
    cases e : dget whole p with
    | none =>
      left
      unfold isIn at hl
      rw [e] at hl
      have := t.len
      have hl : _ + (0 : Int) = _ := hl
      omega
    | some z =>
      right
      refine ⟨_, _, clo_cov c, ?_, ?_⟩
      · have h1 := t.ge ok (clo_cov c)
        have h2 := clo_le ok v ro_are c (f := fun x => if x = p then 1 else 0) (fun x hx hs hd => by
          by_cases z : x = p
          · rw [if_pos z]; exact Int.le_refl _
          · exact absurd (c.st x (left_mem.mpr ⟨hx, hd, fun e => z (Option.some.inj e)⟩)) hs) fun x _ => by
          split <;> omega
        rw [sm_one ok.pn hp] at h2
        have hl : _ + (if (dget whole p).isSome then (1 : Int) else 0) = _ := hl
        rw [e] at hl
        have hl : _ + (1 : Int) = _ := hl
        have := t.len
        unfold wt at h1 ⊢
        dsimp only at h1 ⊢
        omega
      · have : p ∉ S := fun hS => by
          rcases c.inn p hS with z | ⟨q, z⟩
          · exact (left_mem.mp z).2.2 rfl
          · rw [hn] at z
            cases z
        show (!decide (p ∈ S)) = true
        rw [decide_eq_false this]
        rfl
  · obtain ⟨v', l', s, hs, hs2, hdm⟩ := way_step ok v ro_are (fun s hs => (left_mem.mp hs).1) w hd
    obtain ⟨v1, l1⟩ := ord_vr ok v'
    have h1 := t.le ok v'
    have hln := t.len
    refine ⟨v1, ?_, .inl ?_⟩
    · rw [ord_get ok v']
      have := hdm p
      rw [hn, decide_eq_false fun e => (left_mem.mp hs).2.2 (by rw [e])] at this
      cases e : dget d' p with
      | none => rfl
      | some z =>
        rw [e] at this
        cases this
    · unfold isIn at hl
      split at hl <;> omega
theorem lessR_are (hq : q ∈ W.places) : RoomsAre W (lessR W (some q)) fun x => if x = q then W.hold q - 1 else W.hold x := fun x hx => by
  show dget (dput (ro W) q (W.hold q - 1)) x = _
  show _ = some (if x = q then W.hold q - 1 else W.hold x)
  rw [dget_put]
  split
  · rfl
  · exact ro_are x hx
theorem less_case (ok : Wok W) {m : Int} {whole y : List (Str × Str)} (t : Top W m whole) (hq : q ∈ W.places) (h : RFW W whole none (some q) y) :
    VR W W.hold y ∧ (occ W.people (dget y) q : Int) < W.hold q ∧ ((y.length : Int) = m ∨ ∃ X T, Cov W X T ∧ wt W X T = m ∧ T q = true) := by
  have h : (∃ S T, Clo (fw W) (lessR W (some q)) (lessD W whole (some q)) (leftL W (lessD W whole (some q)) none) S T ∧ y = ordF W (lessD W whole (some q))) ∨ ∃ came looked q1 d', Way (fw W) (lessR W (some q)) (lessD W whole (some q)) (leftL W (lessD W whole (some q)) none) came looked q1 ∧ RLed (lessD W whole (some q)) came looked (some q1) d' ∧ y = ordF W d' := h
  have hr := lessR_are (W := W) hq
  have hln := t.len
  have up : ∀ {d : List (Str × Str)}, VR W (fun x => if x = q then W.hold q - 1 else W.hold x) d → VR W W.hold d ∧ (occ W.people (dget d) q : Int) < W.hold q := fun v => ⟨v.mono fun x _ => by
    show (if x = q then W.hold q - 1 else W.hold x) ≤ _
    split
    · next e => rw [e]; omega
    · exact Int.le_refl _, by
    have := v.cp q hq
    rw [if_pos rfl] at this
    omega⟩
  have ec : ((thereL whole q).length : Int) = occ W.people (dget whole) q := by
    rw [← t.v.cnt ok, ← cntD_V t.v.nd]
    rfl
  have ed : lessD W whole (some q) = if W.hold q - 1 < ((thereL whole q).length : Int) then ddrop whole ((thereL whole q).headD "") else whole := rfl
  rw [ed] at h
  by_cases z : W.hold q - 1 < ((thereL whole q).length : Int)
  · rw [if_pos z] at h
    have hho := ok.ho q hq
    obtain ⟨p0, hp0, ep0⟩ : ∃ p0, p0 ∈ thereL whole q ∧ (thereL whole q).headD "" = p0 := by
      cases e : thereL whole q with
      | nil =>
        rw [e] at z
        have z : W.hold q - 1 < ((0 : Nat) : Int) := z
        omega
      | cons a l => exact ⟨a, by simp, rfl⟩
    rw [ep0] at h
    have gp0 := there_mem.mp hp0
    have hpp := (t.v.fs p0 q gp0).1
    have hl := drop_lenI ok t.v hpp
    have hl : _ + (if (dget whole p0).isSome then (1 : Int) else 0) = _ := hl
    rw [gp0] at hl
    have hl : _ + (1 : Int) = _ := hl
    have v : VR W (fun x => if x = q then W.hold q - 1 else W.hold x) (ddrop whole p0) := by
      have v0 := drop_vr t.v p0
      refine ⟨v0.nd, v0.fs, fun x hx => ?_⟩
      by_cases zx : x = q
      · subst zx
        have u := occ_upd ok.pn (f := dget whole) (g := dget (ddrop whole p0)) hpp (fun x hx => by rw [dget_drop, if_neg hx]) x
        rw [gp0, if_pos rfl, dget_drop, if_pos rfl, if_neg (by simp)] at u
        have := t.v.cp x hx
        rw [if_pos rfl]
        omega
      · rw [if_neg zx]
        exact v0.cp x hx
    rcases h with ⟨S, T, c, rfl⟩ | ⟨came, looked, q1, d', w, hd, rfl⟩
    · obtain ⟨v1, l1⟩ := ord_vr ok v
      obtain ⟨u1, u2⟩ := up v1
      refine ⟨u1, u2, .inr ⟨_, _, clo_cov c, ?_⟩⟩
      have h1 := t.ge ok (clo_cov c)
      have h2 := clo_le ok v hr c (f := fun x => 0) (fun x hx hs hd => absurd (c.st x (left_mem.mpr ⟨hx, hd, by simp⟩)) hs) fun _ _ => Int.le_refl _
      rw [sm_zero] at h2
      have h3 : (sm W.places fun x => W.hold x * b2n (decide (x ∈ T))) = (sm W.places fun x => (if x = q then W.hold q - 1 else W.hold x) * b2n (decide (x ∈ T))) + b2n (decide (q ∈ T)) := by
        rw [← sm_one ok.qn hq (x := b2n (decide (q ∈ T))), ← sm_add]
        refine sm_congr fun x _ => ?_
        by_cases zx : x = q
        · rw [if_pos zx, if_pos zx, zx]
          cases decide (q ∈ T)
          · show _ * 0 = _ * 0 + 0
            omega
          · show _ * 1 = _ * 1 + 1
            omega
        · rw [if_neg zx, if_neg zx]
          omega
      unfold wt at h1 ⊢
      dsimp only at h1 ⊢
      by_cases zT : q ∈ T
      · rw [decide_eq_true zT] at h3
        have h3 : _ = _ + (1 : Int) := h3
        exact ⟨by omega, decide_eq_true zT⟩
      · rw [decide_eq_false zT] at h3
        have h3 : _ = _ + (0 : Int) := h3
        omega
    · obtain ⟨v', l', s, hs, hs2, hdm⟩ := way_step ok v hr (fun s hs => (left_mem.mp hs).1) w hd
      obtain ⟨v1, l1⟩ := ord_vr ok v'
      obtain ⟨u1, u2⟩ := up v1
      exact ⟨u1, u2, .inl (by omega)⟩
  · rw [if_neg z] at h
    have v : VR W (fun x => if x = q then W.hold q - 1 else W.hold x) whole := ⟨t.v.nd, t.v.fs, fun x hx => by
      by_cases zx : x = q
      · rw [if_pos zx, zx]
        omega
      · rw [if_neg zx]
        exact t.v.cp x hx⟩
    rcases h with ⟨S, T, c, rfl⟩ | ⟨came, looked, q1, d', w, hd, rfl⟩
    · obtain ⟨v1, l1⟩ := ord_vr ok v
      obtain ⟨u1, u2⟩ := up v1
      exact ⟨u1, u2, .inl (by omega)⟩
    · obtain ⟨v', l', s, hs, hs2, hdm⟩ := way_step ok v hr (fun s hs => (left_mem.mp hs).1) w hd
      have := t.le ok (up v').1
      omega
end
end G3
set_option maxRecDepth 100000
set_option maxHeartbeats 4000000
/-! PL9: the paper that is found tells who is loose; there is such a paper. -/
namespace G3
open PySem PySem.Spec PyProof.Rows L2
theorem Sel.at {D : Type} {R : Str → D → Prop} {ok : Str → D → Bool} {ps : List Str} {out : List (Str × D)} (h : Sel R ok ps out) : ps.Nodup → ∀ p ∈ ps, ∃ y, R p y ∧ decide (p ∈ keys out) = ok p y := by
  induction h with
  | nil => exact fun _ p hp => absurd hp (by simp)
  | @yes ps out p y hs hr ho ih =>
    intro nd x hx
    obtain ⟨n1, _, n2⟩ := List.nodup_append.mp nd
    have e : keys (out ++ [(p, y)]) = keys out ++ [p] := keys_app _ _
    rw [e]
    rcases List.mem_append.mp hx with z | z
    · obtain ⟨w, h1, h2⟩ := ih n1 x z
      refine ⟨w, h1, ?_⟩
      rw [← h2]
      have : x ≠ p := n2 x z p (by simp)
      simp [this]
    · rw [List.mem_singleton.mp z]
      exact ⟨y, hr, by rw [ho]; simp⟩
  | @no ps out p y hs hr ho ih =>
    intro nd x hx
    obtain ⟨n1, _, n2⟩ := List.nodup_append.mp nd
    rcases List.mem_append.mp hx with z | z
    · exact ih n1 x z
    · rw [List.mem_singleton.mp z]
      refine ⟨y, hr, ?_⟩
      rw [ho]
      exact decide_eq_false fun h => n2 p (hs.sub.1 p h) p (by simp) rfl
section
variable {W : Wo}
theorem lse_of (ok : Wok W) {z : List (Str × Str) × List (Str × List (Str × Str)) × List (Str × List (Str × Str))} (h : RSP W z) : Lse W z.1.length (fun p => decide (p ∈ keys z.2.1)) fun q => decide (q ∈ keys z.2.2) := by
  obtain ⟨whole, pp, pq⟩ := z
  obtain ⟨⟨g, hg, e⟩, hp, hq⟩ := h
  dsimp only at e hp hq ⊢
  have t : Top W g.length whole := by rw [e]; exact (grow_end ok hg).ord ok
  have el : (whole.length : Int) = g.length := t.len
  refine ⟨ok, ⟨whole, t.v.val ok, rfl⟩, by rw [el]; exact t.cm, fun p hP hl => ?_, fun p hP hl => ?_, fun q hQ hl => ?_, fun q hQ hl => ?_⟩
  · obtain ⟨y, hy, ey⟩ := hp.at ok.pn p hP
    rw [hl] at ey
    obtain ⟨v, hn, _⟩ := out_case ok t hP hy
    obtain ⟨h1, h2⟩ := Bool.and_eq_true_iff.mp ey.symm
    refine ⟨fun z => ?_, y, v.val ok, ?_, hn⟩
    · rw [z] at h1
      cases h1
    rw [of_decide_eq_true h2]
  · obtain ⟨y, hy, ey⟩ := hp.at ok.pn p hP
    rw [hl] at ey
    obtain ⟨v, hn, h⟩ := out_case ok t hP hy
    rcases Bool.and_eq_false_iff.mp ey.symm with h1 | h1
    · left
      cases e2 : W.first p with
      | nil => rfl
      | cons a l =>
        rw [e2] at h1
        cases h1
    · right
      rcases h with h | h
      · have := of_decide_eq_false h1
        omega
      · rw [el]
        exact h
  · obtain ⟨y, hy, ey⟩ := hq.at ok.qn q hQ
    rw [hl] at ey
    obtain ⟨v, hn, _⟩ := less_case ok t hQ hy
    refine ⟨y, v.val ok, by rw [of_decide_eq_true ey.symm], ?_⟩
    rw [v.cnt ok]
    exact hn
  · obtain ⟨y, hy, ey⟩ := hq.at ok.qn q hQ
    rw [hl] at ey
    obtain ⟨v, hn, h⟩ := less_case ok t hQ hy
    rcases h with h | h
    · have := of_decide_eq_false ey.symm
      omega
    · rw [el]
      exact h
end
/-! there is one -/
section
variable {ws : List (Str × List Str)} {rooms : List (Str × Int)} {d : List (Str × Str)} {starts : List Str}
theorem reach_from (pre : PreR ws rooms d starts) : ∀ (n : Nat) (came : List (Str × Option Str)) (looked : List (Str × Str)), Rch ws d starts came looked → starts.length + d.length + rooms.length ≤ n + (came.length + looked.length) →
    (∃ came looked q, Way ws rooms d starts came looked q) ∨ ∃ S T, Clo ws rooms d starts S T := by
  intro n
  induction n with
  | zero =>
    intro came looked r hn
    by_cases h1 : ∃ p ∈ keys came, ∃ q ∈ wsOf ws p, dget d p ≠ some q ∧ q ∉ keys looked
    · obtain ⟨p, hp, q, hq, hd, hl⟩ := h1
      have := (r.look hp hl hq hd).room pre
      rw [dput_out hl, List.length_append] at this
      have := this.1
      have e : ([(q, p)] : List (Str × Str)).length = 1 := rfl
      omega
    by_cases h2 : ∃ q ∈ keys looked, hasRoom rooms d q = true
    · obtain ⟨q, hq, hr⟩ := h2
      exact .inl ⟨came, looked, q, r, hq, hr⟩
    by_cases h3 : ∃ q ∈ keys looked, ∃ o, dget d o = some q ∧ o ∉ keys came
    · obtain ⟨q, hq, o, ho, hc⟩ := h3
      have := (r.come hc hq ho).room pre
      rw [dput_out hc, List.length_append] at this
      have e : ([(o, some q)] : List (Str × Option Str)).length = 1 := rfl
      omega
    refine .inr ⟨_, _, r.clo (fun p hp q hq => ?_) fun q hq => ⟨?_, fun o ho => ?_⟩⟩
    · by_cases a : dget d p = some q
      · exact .inl a
      · by_cases b : q ∈ keys looked
        · exact .inr b
        · exact absurd ⟨p, hp, q, hq, a, b⟩ h1
    · cases e : hasRoom rooms d q with
      | false => rfl
      | true => exact absurd ⟨q, hq, e⟩ h2
    · by_cases b : o ∈ keys came
      · exact b
      · exact absurd ⟨q, hq, o, ho, b⟩ h3
  | succ n ih =>
    intro came looked r hn
    by_cases h1 : ∃ p ∈ keys came, ∃ q ∈ wsOf ws p, dget d p ≠ some q ∧ q ∉ keys looked
    · obtain ⟨p, hp, q, hq, hd, hl⟩ := h1
      refine ih _ _ (r.look hp hl hq hd) ?_
      rw [dput_out hl, List.length_append]
      have e : ([(q, p)] : List (Str × Str)).length = 1 := rfl
      omega
    by_cases h2 : ∃ q ∈ keys looked, hasRoom rooms d q = true
    · obtain ⟨q, hq, hr⟩ := h2
      exact .inl ⟨came, looked, q, r, hq, hr⟩
    by_cases h3 : ∃ q ∈ keys looked, ∃ o, dget d o = some q ∧ o ∉ keys came
    · obtain ⟨q, hq, o, ho, hc⟩ := h3
      refine ih _ _ (r.come hc hq ho) ?_
      rw [dput_out hc, List.length_append]
      have e : ([(o, some q)] : List (Str × Option Str)).length = 1 := rfl
      omega
    refine .inr ⟨_, _, r.clo (fun p hp q hq => ?_) fun q hq => ⟨?_, fun o ho => ?_⟩⟩
    · by_cases a : dget d p = some q
      · exact .inl a
      · by_cases b : q ∈ keys looked
        · exact .inr b
        · exact absurd ⟨p, hp, q, hq, a, b⟩ h1
    · cases e : hasRoom rooms d q with
      | false => rfl
      | true => exact absurd ⟨q, hq, e⟩ h2
    · by_cases b : o ∈ keys came
      · exact b
      · exact absurd ⟨q, hq, o, ho, b⟩ h3
theorem reach_ex (pre : PreR ws rooms d starts) : (∃ came looked q d', Way ws rooms d starts came looked q ∧ RLed d came looked (some q) d') ∨ ∃ S T, Clo ws rooms d starts S T := by
  rcases reach_from pre (starts.length + d.length + rooms.length) _ _ (Rch.init pre.nd pre.no) (by omega) with ⟨came, looked, q, w⟩ | h
  · obtain ⟨_, q', p, l, e, h1, h2, h3, h4⟩ := w.pre (by have := pre.l2; omega)
    exact .inl ⟨came, looked, q, _, w, q', p, l, e, h1, h2, h3, h4, rfl⟩
  · exact .inr h
end
section
variable {W : Wo}
theorem fw_some {p : Str} (hp : p ∈ W.people) : (dget (fw W) p).isSome = true := by
  unfold fw
  rw [dget_mapF, if_pos hp]
  rfl
theorem grow_ex (ok : Wok W) : ∀ (n : Nat) (ps : List Str), ps.length = n → ps.Nodup → (∀ p ∈ ps, p ∈ W.people) → ∃ d, Grow (fw W) (ro W) ps d
  | 0, ps, hn, nd, hp => by
    cases List.eq_nil_of_length_eq_zero hn
    exact ⟨[], .nil⟩
  | n + 1, ps, hn, nd, hp => by
    obtain ⟨qs, p, rfl⟩ : ∃ qs p, ps = qs ++ [p] := ⟨ps.dropLast, ps.getLast (fun z => by rw [z] at hn; cases hn), (List.dropLast_concat_getLast _).symm⟩
    obtain ⟨n1, _, n2⟩ := List.nodup_append.mp nd
    have hq : ∀ x ∈ qs, x ∈ W.people := fun x hx => hp x (List.mem_append_left _ hx)
    obtain ⟨d, g⟩ := grow_ex ok n qs (by simpa using hn) n1 hq
    obtain ⟨k1, k2⟩ := g.ok n1
    have hpp : p ∈ W.people := hp p (by simp)
    have hl := g.len n1
    have hl2 := nd_len n1 hq
    have hpl := ok.pl
    have pre : PreR (fw W) (ro W) d [p] := ⟨by simp, fun s hs => by
      rw [List.mem_singleton.mp hs]
      exact dget_none.mpr fun z => n2 p (k1 p z) p (by simp) rfl, by simp, by omega, by unfold ro; rw [List.length_map]; exact Nat.le_trans ok.ql (by decide), fun s hs => by
      rw [List.mem_singleton.mp hs]
      exact fw_some hpp, fun x hx => fw_some (hq x (k1 x hx)), fun p q h => by rw [dget_ro, if_pos (ok.rm p q h)]; rfl⟩
    rcases reach_ex pre with ⟨came, looked, q, d', w, h⟩ | ⟨S, T, c⟩
    · exact ⟨d', .yes g w h⟩
    · exact ⟨d, .no g c⟩
theorem rfw_ex {whole : List (Str × Str)} {out less : Option Str} (pre : PreF W whole less) : ∃ y, RFW W whole out less y := by
  have ok := pre.ok
  have hk : ∀ x ∈ keys (lessD W (ddropO whole out) less), x ∈ W.people := fun x hx => pre.wp x (ddropO_keys x (lessD_keys x hx))
  have hnd : (keys (lessD W (ddropO whole out) less)).Nodup := lessD_nd (ddropO_nd pre.wn)
  have hl := nd_len hnd hk
  rw [keys_len] at hl
  have hpl := ok.pl
  have hl2 : (leftL W (lessD W (ddropO whole out) less) out).length ≤ W.people.length := List.length_filter_le _ _
  have preR : PreR (fw W) (lessR W less) (lessD W (ddropO whole out) less) (leftL W (lessD W (ddropO whole out) less) out) := ⟨ok.pn.filter _, fun s hs => (left_mem.mp hs).2.1, by omega, by omega, lessR_len ok, fun s hs => fw_some (left_mem.mp hs).1, fun x hx => fw_some (hk x hx), fun p q h => lessR_some (ok.rm p q h)⟩
  rcases reach_ex preR with ⟨came, looked, q, d', w, h⟩ | ⟨S, T, c⟩
  · exact ⟨_, .inr ⟨came, looked, q, d', w, h, rfl⟩⟩
  · exact ⟨_, .inl ⟨S, T, c, rfl⟩⟩
theorem sel_ex {D : Type} {R : Str → D → Prop} {ok : Str → D → Bool} : ∀ (n : Nat) (ps : List Str), ps.length = n → (∀ p ∈ ps, ∃ y, R p y) → ∃ out, Sel R ok ps out
  | 0, ps, hn, hp => by
    cases List.eq_nil_of_length_eq_zero hn
    exact ⟨[], .nil⟩
  | n + 1, ps, hn, hp => by
    obtain ⟨qs, p, rfl⟩ : ∃ qs p, ps = qs ++ [p] := ⟨ps.dropLast, ps.getLast (fun z => by rw [z] at hn; cases hn), (List.dropLast_concat_getLast _).symm⟩
    obtain ⟨out, h⟩ := sel_ex (ok := ok) n qs (by simpa using hn) fun x hx => hp x (List.mem_append_left _ hx)
    obtain ⟨y, hy⟩ := hp p (by simp)
    cases e : ok p y with
    | true => exact ⟨_, .yes h hy e⟩
    | false => exact ⟨_, .no h hy e⟩
theorem rsp_ex (ok : Wok W) : ∃ z, RSP W z := by
  obtain ⟨g, hg⟩ := grow_ex ok _ W.people rfl ok.pn fun _ h => h
  have preF : ∀ {less : Option Str}, (∀ q, less = some q → q ∈ W.places) → PreF W (ordF W g) less := fun hl => ⟨ok, ord_nd ok, fun p hp => by
    rw [keys_ord] at hp
    exact (List.mem_filter.mp hp).1, hl⟩
  obtain ⟨pp, hp⟩ := sel_ex (R := fun p z => RFW W (ordF W g) (some p) none z) (ok := okP W (ordF W g)) _ W.people rfl fun p _ => rfw_ex (preF fun q h => nomatch h)
  obtain ⟨pq, hq⟩ := sel_ex (R := fun q z => RFW W (ordF W g) none (some q) z) (ok := okQ (ordF W g)) _ W.places rfl fun q hq => rfw_ex (preF fun q' h => by cases h; exact hq)
  exact ⟨(ordF W g, pp, pq), ⟨g, hg, rfl⟩, hp, hq⟩
end
end G3
set_option maxRecDepth 100000
set_option maxHeartbeats 4000000
/-! PL10: the sorts found hold; those that hold are the sorts found. -/
namespace G3
open PySem PySem.Spec PyProof.Rows L2
section
variable {W : Wo} {m m' : Int} {LP LQ LP' LQ' : Str → Bool} {tp tq : List (Str × Kd)}
/-! ### who is loose is the same, whoever tells it -/
theorem Lse.same_m (l : Lse W m LP LQ) (l' : Lse W m' LP' LQ') : m = m' := by
  obtain ⟨d, v, e⟩ := l.dm
  obtain ⟨d', v', e'⟩ := l'.dm
  obtain ⟨X, T, c, ec⟩ := l.cm
  obtain ⟨X', T', c', ec'⟩ := l'.cm
  have h1 := weak l.ok v c'
  have h2 := weak l.ok v' c
  omega
theorem Lse.p_imp (l : Lse W m LP LQ) (l' : Lse W m LP' LQ') {p : Str} (hp : p ∈ W.people) (h : LP p = true) : LP' p = true := by
  cases z : LP' p with
  | true => rfl
  | false =>
    obtain ⟨hf, d, v, e, hn⟩ := l.p1 p hp h
    rcases l'.p0 p hp z with y | ⟨X, T, c, ec, hx⟩
    · exact absurd y hf
    · have := (tight_used l.ok v c (by omega)).1 p hp hx
      rw [hn] at this
      cases this
theorem Lse.q_imp (l : Lse W m LP LQ) (l' : Lse W m LP' LQ') {q : Str} (hq : q ∈ W.places) (h : LQ q = true) : LQ' q = true := by
  cases z : LQ' q with
  | true => rfl
  | false =>
    obtain ⟨d, v, e, hn⟩ := l.q1 q hq h
    obtain ⟨X, T, c, ec, hx⟩ := l'.q0 q hq z
    have := (tight_used l.ok v c (by omega)).2 q hq hx
    omega
theorem Lse.same_p (l : Lse W m LP LQ) (l' : Lse W m' LP' LQ') {p : Str} (hp : p ∈ W.people) : LP p = LP' p := by
  have e := l.same_m l'
  subst e
  rw [Bool.eq_iff_iff]
  exact ⟨l.p_imp l' hp, l'.p_imp l hp⟩
theorem Lse.same_q (l : Lse W m LP LQ) (l' : Lse W m' LP' LQ') {q : Str} (hq : q ∈ W.places) : LQ q = LQ' q := by
  have e := l.same_m l'
  subst e
  rw [Bool.eq_iff_iff]
  exact ⟨l.q_imp l' hq, l'.q_imp l hq⟩
/-! ### the sorts, of who is loose -/
def soP (W : Wo) (LP LQ : Str → Bool) (p : Str) : Kd := if LP p then Kd.loose else if XD W LQ p then Kd.tight else Kd.paired
def soQ (W : Wo) (LP LQ : Str → Bool) (q : Str) : Kd := if TU W LP q then Kd.tight else if LQ q then Kd.loose else Kd.paired
def soF (W : Wo) (LP LQ : Str → Bool) : List (Str × Kd) × List (Str × Kd) := (W.people.map fun p => (p, soP W LP LQ p), W.places.map fun q => (q, soQ W LP LQ q))
theorem sorts_so {lp lq : List Str} : sortsF W lp lq = soF W (fun p => decide (p ∈ lp)) fun q => decide (q ∈ lq) := by
  unfold sortsF soF soP soQ XD TU
  simp only [decide_eq_true_eq]
theorem kd_map {L : List Str} {g : Str → Kd} {k : Str} (h : k ∈ L) : kdP (L.map fun p => (p, g p)) k = g k := by
  unfold kdP
  rw [dget_mapF, if_pos h]
  rfl
theorem kd_self {L : List Str} (nd : L.Nodup) {t : List (Str × Kd)} (h : keys t = L) : t = L.map fun p => (p, kdP t p) := by
  have e : ∀ x ∈ t, x = (x.1, kdP t x.1) := fun x hx => by
    have := nd_mem (by rw [h]; exact nd) (show (x.1, x.2) ∈ t from hx)
    unfold kdP
    rw [this]
    rfl
  rw [← h]
  unfold keys
  rw [List.map_map]
  have : t.map id = t.map ((fun p => (p, kdP t p)) ∘ fun x => x.1) := List.map_congr_left fun x hx => e x hx
  rw [List.map_id] at this
  exact this
theorem XD_true {p : Str} : XD W LQ p = true ↔ ∃ q ∈ W.first p, LQ q = true := List.any_eq_true
theorem TU_true {q : Str} : TU W LP q = true ↔ ∃ p ∈ W.people, LP p = true ∧ q ∈ W.first p := by
  unfold TU
  rw [List.any_eq_true]
  constructor
  · rintro ⟨p, hp, h⟩
    obtain ⟨a, b⟩ := Bool.and_eq_true_iff.mp h
    exact ⟨p, hp, a, of_decide_eq_true b⟩
  · rintro ⟨p, hp, a, b⟩
    exact ⟨p, hp, by rw [a, decide_eq_true b]; rfl⟩
theorem soP_loose {p : Str} : soP W LP LQ p = .loose ↔ LP p = true := by
  unfold soP
  cases LP p <;> cases XD W LQ p <;> simp
theorem soP_tight (l : Lse W m LP LQ) {p : Str} (hp : p ∈ W.people) : soP W LP LQ p = .tight ↔ XD W LQ p = true := by
  unfold soP
  cases z : LP p with
  | false => cases XD W LQ p <;> simp
  | true =>
    have : XD W LQ p = false := by
      rw [← Bool.not_eq_true]
      intro h
      obtain ⟨q, hq, h⟩ := XD_true.mp h
      rw [l.no_loose hp hq z] at h
      cases h
    rw [this]
    simp
theorem soQ_tight {q : Str} : soQ W LP LQ q = .tight ↔ TU W LP q = true := by
  unfold soQ
  cases TU W LP q <;> cases LQ q <;> simp
theorem TU_LQ (l : Lse W m LP LQ) {q : Str} (h : TU W LP q = true) : LQ q = false := by
  obtain ⟨p, hp, a, b⟩ := TU_true.mp h
  exact l.no_loose hp b a
theorem soQ_loose (l : Lse W m LP LQ) {q : Str} : soQ W LP LQ q = .loose ↔ LQ q = true := by
  unfold soQ
  cases z : TU W LP q with
  | false => cases LQ q <;> simp
  | true =>
    rw [TU_LQ l z]
    simp
/-- sorts told as they are -/
structure So (W : Wo) (LP LQ : Str → Bool) (tp tq : List (Str × Kd)) : Prop where
  p : ∀ p ∈ W.people, kdP tp p = soP W LP LQ p
  q : ∀ q ∈ W.places, kdP tq q = soQ W LP LQ q
theorem so_F : So W LP LQ (soF W LP LQ).1 (soF W LP LQ).2 := ⟨fun p hp => kd_map hp, fun q hq => kd_map hq⟩
theorem So.eq (ok : Wok W) (s : So W LP LQ tp tq) (pt : PreT W tp tq) : (tp, tq) = soF W LP LQ := by
  have e1 := kd_self ok.pn pt.kp
  have e2 := kd_self ok.qn pt.kq
  have f1 : (W.people.map fun p => (p, kdP tp p)) = W.people.map fun p => (p, soP W LP LQ p) := List.map_congr_left fun p hp => by rw [s.p p hp]
  have f2 : (W.places.map fun p => (p, kdP tq p)) = W.places.map fun p => (p, soQ W LP LQ p) := List.map_congr_left fun p hp => by rw [s.q p hp]
  rw [f1] at e1
  rw [f2] at e2
  rw [e1, e2]
  rfl
theorem so_congr (ok : Wok W) (hp : ∀ p ∈ W.people, LP p = LP' p) (hq : ∀ q ∈ W.places, LQ q = LQ' q) : soF W LP LQ = soF W LP' LQ' := by
  have e1 : ∀ p ∈ W.people, soP W LP LQ p = soP W LP' LQ' p := fun p h => by
    have : XD W LQ p = XD W LQ' p := by
      rw [Bool.eq_iff_iff, XD_true, XD_true]
      constructor
      · rintro ⟨q, a, b⟩
        exact ⟨q, a, by rw [← hq q (ok.ff p h q a)]; exact b⟩
      · rintro ⟨q, a, b⟩
        exact ⟨q, a, by rw [hq q (ok.ff p h q a)]; exact b⟩
    unfold soP
    rw [hp p h, this]
  have e2 : ∀ q ∈ W.places, soQ W LP LQ q = soQ W LP' LQ' q := fun q h => by
    have : TU W LP q = TU W LP' q := by
      rw [Bool.eq_iff_iff, TU_true, TU_true]
      constructor
      · rintro ⟨p, a, b, c⟩
        exact ⟨p, a, by rw [← hp p a]; exact b, c⟩
      · rintro ⟨p, a, b, c⟩
        exact ⟨p, a, by rw [hp p a]; exact b, c⟩
    unfold soQ
    rw [hq q h, this]
  unfold soF
  rw [List.map_congr_left fun p h => by rw [e1 p h], List.map_congr_left (l := W.places) fun p h => by rw [e2 p h]]
/-! ### they fit -/
theorem So.fit (l : Lse W m LP LQ) (s : So W LP LQ tp tq) : FitW W tp tq where
  pr := fun p hp q hq => by
    have hQ := l.ok.ff p hp q hq
    rw [s.p p hp, s.q q hQ]
    refine ⟨fun h => soQ_tight.mpr (TU_true.mpr ⟨p, hp, soP_loose.mp h, hq⟩), fun h z => ?_⟩
    have : soP W LP LQ p = .tight := (soP_tight l hp).mpr (XD_true.mpr ⟨q, hq, (soQ_loose l).mp z⟩)
    rw [h] at this
    cases this
  pt := fun p hp h => by
    rw [s.p p hp] at h
    obtain ⟨q, hq, hl⟩ := XD_true.mp ((soP_tight l hp).mp h)
    exact ⟨q, hq, by rw [s.q q (l.ok.ff p hp q hq)]; exact (soQ_loose l).mpr hl⟩
  pg := fun p hp h => by
    rw [s.p p hp] at h
    cases z : soP W LP LQ p with
    | loose => exact (l.p1 p hp (soP_loose.mp z)).1
    | tight =>
      obtain ⟨q, hq, _⟩ := XD_true.mp ((soP_tight l hp).mp z)
      intro e
      rw [e] at hq
      exact absurd hq (by simp)
    | paired => exact absurd z h
  qt := fun q hq h => by
    rw [s.q q hq] at h
    obtain ⟨p, hp, a, b⟩ := TU_true.mp (soQ_tight.mp h)
    exact ⟨p, hp, b, by rw [s.p p hp]; exact soP_loose.mpr a⟩
theorem So.sums (l : Lse W m LP LQ) (s : So W LP LQ tp tq) : sP W tp + hK W tq .tight + sT W tp = m ∧ sP W tp = hK W tq .paired := by
  have h1 := l.wtU
  have h2 := l.wtD
  unfold wt at h1 h2
  have f := s.fit l
  have e1 : sm W.people (fun p => b2n (XU W LP p)) = sP W tp + sT W tp := by
    unfold sP sT
    rw [← sm_add]
    refine sm_congr fun p hp => ?_
    have hg := f.pg p hp
    rw [s.p p hp] at hg ⊢
    unfold XU
    cases z : soP W LP LQ p with
    | loose =>
      rw [soP_loose.mp z]
      simp [b2n]
    | tight =>
      have : LP p = false := by
        rw [← Bool.not_eq_true]
        intro h
        rw [soP_loose.mpr h] at z
        cases z
      have h3 := hg (by rw [z]; decide)
      have : (W.first p).isEmpty = false := by
        cases e : W.first p with
        | nil => exact absurd e h3
        | cons a r => rfl
      simp [b2n, *]
    | paired =>
      have : LP p = false := by
        rw [← Bool.not_eq_true]
        intro h
        rw [soP_loose.mpr h] at z
        cases z
      simp [b2n, *]
  have e2 : sm W.places (fun q => W.hold q * b2n (TU W LP q)) = hK W tq .tight := by
    unfold hK
    refine sm_congr fun q hq => ?_
    rw [s.q q hq]
    congr 2
    rw [Bool.eq_iff_iff, decide_eq_true_iff]
    exact soQ_tight.symm
  have e3 : sm W.people (fun p => b2n (XD W LQ p)) = sT W tp := by
    unfold sT
    refine sm_congr fun p hp => ?_
    rw [s.p p hp]
    congr 1
    rw [Bool.eq_iff_iff, decide_eq_true_iff]
    exact (soP_tight l hp).symm
  have e4 : sm W.places (fun q => W.hold q * b2n (TD LQ q)) = hK W tq .tight + hK W tq .paired := by
    unfold hK
    rw [← sm_add]
    refine sm_congr fun q hq => ?_
    rw [s.q q hq]
    unfold TD
    cases z : soQ W LP LQ q with
    | loose =>
      rw [(soQ_loose l).mp z]
      simp [b2n]
    | tight =>
      rw [TU_LQ l (soQ_tight.mp z)]
      simp [b2n]
    | paired =>
      have : LQ q = false := by
        rw [← Bool.not_eq_true]
        intro h
        rw [(soQ_loose l).mpr h] at z
        cases z
      rw [this]
      simp [b2n]
  rw [e1, e2] at h1
  rw [e3, e4] at h2
  omega
/-! ### and the other way -/
def isK (t : List (Str × Kd)) (p : Str) : Bool := decide (kdP t p = .loose)
theorem lse_told (ok : Wok W) (f : FitW W tp tq) (hs : sP W tp = hK W tq .paired) (hm : m = sP W tp + hK W tq .tight + sT W tp) (d0 : ∃ d, Val W d ∧ (d.length : Int) = m)
    (hp : ∀ p ∈ W.people, kdP tp p = .loose → ∃ d, Val W d ∧ (d.length : Int) = m ∧ dget d p = none) (hq : ∀ q ∈ W.places, kdP tq q = .loose → ∃ d, Val W d ∧ (d.length : Int) = m ∧ (cntV d q : Int) < W.hold q) : Lse W m (isK tp) (isK tq) := by
  have cU : Cov W (fun p => decide (kdP tp p = .tight) || (decide (kdP tp p = .paired) && !(W.first p).isEmpty)) fun q => decide (kdP tq q = .tight) := fun p h q hqf => by
    cases z : kdP tp p with
    | loose => exact .inr (decide_eq_true ((f.pr p h q hqf).1 z))
    | tight => exact .inl (by simp [z])
    | paired => exact .inl (by simp [z, ne_nil_of hqf])
  have eU : wt W (fun p => decide (kdP tp p = .tight) || (decide (kdP tp p = .paired) && !(W.first p).isEmpty)) (fun q => decide (kdP tq q = .tight)) = m := by
    have e1 : sm W.people (fun p => b2n (decide (kdP tp p = .tight) || (decide (kdP tp p = .paired) && !(W.first p).isEmpty))) = sT W tp + sP W tp := by
      unfold sT sP
      rw [← sm_add]
      refine sm_congr fun p _ => ?_
      cases kdP tp p <;> simp [b2n]
    have e2 : sm W.places (fun q => W.hold q * b2n (decide (kdP tq q = .tight))) = hK W tq .tight := rfl
    unfold wt
    rw [e1, e2]
    omega
  have cD : Cov W (fun p => decide (kdP tp p = .tight)) fun q => !decide (kdP tq q = .loose) := fun p h q hqf => by
    obtain ⟨h1, h2⟩ := f.pr p h q hqf
    cases z : kdP tp p with
    | loose => exact .inr (by simp [h1 z])
    | tight => exact .inl (by simp [z])
    | paired => exact .inr (by simp [h2 z])
  have eD : wt W (fun p => decide (kdP tp p = .tight)) (fun q => !decide (kdP tq q = .loose)) = m := by
    have e1 : sm W.people (fun p => b2n (decide (kdP tp p = .tight))) = sT W tp := rfl
    have e2 : sm W.places (fun q => W.hold q * b2n (!decide (kdP tq q = .loose))) = hK W tq .tight + hK W tq .paired := by
      unfold hK
      rw [← sm_add]
      refine sm_congr fun q _ => ?_
      cases kdP tq q <;> simp [b2n]
    unfold wt
    rw [e1, e2]
    omega
  refine ⟨ok, d0, ⟨_, _, cU, eU⟩, fun p h hl => ?_, fun p h hl => ?_, fun q h hl => hq q h (of_decide_eq_true hl), fun q h hl => ⟨_, _, cD, eD, ?_⟩⟩
  · have hl := of_decide_eq_true hl
    exact ⟨f.pg p h (by rw [hl]; decide), hp p h hl⟩
  · have hl := of_decide_eq_false hl
    cases e : W.first p with
    | nil => exact .inl rfl
    | cons a r =>
      refine .inr ⟨_, _, cU, eU, ?_⟩
      cases z : kdP tp p with
      | loose => exact absurd z hl
      | tight => simp [z]
      | paired => simp [e, z]
  · show (!decide (kdP tq q = .loose)) = true
    rw [show decide (kdP tq q = .loose) = false from hl]
    rfl
theorem so_told (f : FitW W tp tq) : So W (isK tp) (isK tq) tp tq := by
  refine ⟨fun p hp => ?_, fun q hq => ?_⟩
  · unfold soP isK
    cases z : kdP tp p with
    | loose => rfl
    | tight =>
      obtain ⟨q, hq, h⟩ := f.pt p hp z
      have : XD W (isK tq) p = true := XD_true.mpr ⟨q, hq, decide_eq_true h⟩
      show _ = if _ then _ else if XD W (isK tq) p then _ else _
      rw [this]
      rfl
    | paired =>
      have : XD W (isK tq) p = false := by
        rw [← Bool.not_eq_true]
        intro h
        obtain ⟨q, hq, h⟩ := XD_true.mp h
        exact (f.pr p hp q hq).2 z (of_decide_eq_true h)
      show _ = if _ then _ else if XD W (isK tq) p then _ else _
      rw [this]
      rfl
  · unfold soQ
    cases z : kdP tq q with
    | tight =>
      obtain ⟨p, hp, h, h2⟩ := f.qt q hq z
      rw [TU_true.mpr ⟨p, hp, decide_eq_true h2, h⟩]
      rfl
    | loose =>
      have : TU W (isK tp) q = false := by
        rw [← Bool.not_eq_true]
        intro h
        obtain ⟨p, hp, h, h2⟩ := TU_true.mp h
        rw [(f.pr p hp q h2).1 (of_decide_eq_true h)] at z
        cases z
      rw [this]
      unfold isK
      rw [z]
      rfl
    | paired =>
      have : TU W (isK tp) q = false := by
        rw [← Bool.not_eq_true]
        intro h
        obtain ⟨p, hp, h, h2⟩ := TU_true.mp h
        rw [(f.pr p hp q h2).1 (of_decide_eq_true h)] at z
        cases z
      rw [this]
      unfold isK
      rw [z]
      rfl
end
end G3
set_option maxRecDepth 100000
set_option maxHeartbeats 4000000
/-! PL11: the two premises of the law's walk. -/
namespace G3
open PySem PySem.Spec PyProof.Rows L2
section
variable {W : Wo} {m : Int} {LP LQ : Str → Bool} {tp tq : List (Str × Kd)}
theorem ord_fds (pre : PreW W) {d : List (Str × Str)} (v : Val W d) : ordF W d ∈ fdsF W ∧ ((ordF W d).length : Int) = d.length ∧ (∀ p, dget (ordF W d) p = dget d p) ∧ ∀ q, cntV (ordF W d) q = cntV d q := by
  have ok := pre.wok
  have vr := v.vr ok
  obtain ⟨v1, l1⟩ := ord_vr ok vr
  have hat := v1.at
  refine ⟨List.mem_filter.mpr ⟨(deals_iff pre rfl ok.pn (fun _ h => h) _).mpr ⟨?_, fun x hx => ?_, (v1.val ok).cp⟩, List.all_eq_true.mpr fun x hx => decide_eq_true (hat x hx).2⟩, l1, ord_get ok vr, fun q => ?_⟩
  · rw [keys_ord]
    exact List.filter_sublist
  · obtain ⟨h1, h2⟩ := hat x hx
    exact chosen_mem.mpr ⟨ok.ff _ h1 _ h2, pre.first_sub h2⟩
  · have e1 := v1.cnt ok (q := q)
    have e2 := vr.cnt ok (q := q)
    have e : occ W.people (dget (ordF W d)) q = occ W.people (dget d) q := occ_congr fun p _ => ord_get ok vr p
    rw [e] at e1
    omega
theorem best_len {ds : List (List (Str × Str))} (h : ∃ d ∈ ds, (d.length : Int) = m) : bestF ds m ∈ ds ∧ ((bestF ds m).length : Int) = m := by
  obtain ⟨d, hd, e⟩ := h
  have hm : d ∈ ds.filter fun d : List (Str × Str) => decide ((d.length : Int) = m) := List.mem_filter.mpr ⟨hd, decide_eq_true e⟩
  unfold bestF
  cases z : ds.filter fun d : List (Str × Str) => decide ((d.length : Int) = m) with
  | nil =>
    rw [z] at hm
    exact absurd hm (by simp)
  | cons a r =>
    have ha : a ∈ ds.filter fun d : List (Str × Str) => decide ((d.length : Int) = m) := by rw [z]; simp
    obtain ⟨h1, h2⟩ := List.mem_filter.mp ha
    exact ⟨h1, of_decide_eq_true h2⟩
theorem loose_mem {t : List (Str × Kd)} {p : Str} : p ∈ looseK t ↔ p ∈ keys t ∧ kdP t p = .loose := by
  unfold looseK
  rw [List.mem_filter, decide_eq_true_iff]
theorem hold_iff (pre : PreS W) (l : Lse W m LP LQ) (pt : PreT W tp tq) :
    holdB W tp tq (bestF (fdsF W) (lmany W tp tq)) (paperP tp (fdsF W) (lmany W tp tq)) (paperQ W tq (fdsF W) (lmany W tp tq)) = decide ((tp, tq) = soF W LP LQ) := by
  have pw := pre.pre
  have ok := pw.wok
  have hv : ∀ {d}, d ∈ fdsF W → Val W d := fun h => fds_val pw h
  rw [Bool.eq_iff_iff, decide_eq_true_iff]
  rw [lmany_eq pw]
  unfold holdB
  rw [manyF_eq pt.kp, pwg_eq, hw_eq]
  rw [Bool.and_eq_true_iff, Bool.and_eq_true_iff, Bool.and_eq_true_iff, Bool.and_eq_true_iff, Bool.and_eq_true_iff, Bool.and_eq_true_iff, fitB_iff, decide_eq_true_iff, decide_eq_true_iff]
  generalize hM : sP W tp + hK W tq .tight + sT W tp = M
  constructor
  · rintro ⟨⟨f, hs⟩, h0, ⟨hpp, hpq⟩, hop, hoq⟩
    have hpp := List.all_eq_true.mp hpp
    have hpq := List.all_eq_true.mp hpq
    have hop := List.all_eq_true.mp hop
    have hoq := List.all_eq_true.mp hoq
    have l' : Lse W M (isK tp) (isK tq) := lse_told ok f hs hM.symm ⟨_, best_val ok fun d hd => hv hd, h0⟩ (fun p hp hk => ?_) fun q hq hk => ?_
    · rw [(so_told f).eq ok pt]
      exact so_congr ok (fun p hp => l'.same_p l hp) fun q hq => l'.same_q l hq
    · have hm : (p, bestF ((fdsF W).filter fun d => !(dget d p).isSome) M) ∈ paperP tp (fdsF W) M := List.mem_map.mpr ⟨p, loose_mem.mpr ⟨by rw [pt.kp]; exact hp, hk⟩, rfl⟩
      refine ⟨_, best_val ok fun d hd => hv (List.mem_filter.mp hd).1, of_decide_eq_true (hpp _ hm), ?_⟩
      have := hop _ hm
      dsimp only at this
      cases e : dget (bestF ((fdsF W).filter fun d => !(dget d p).isSome) M) p with
      | none => rfl
      | some z =>
        rw [e] at this
        cases this
    · have hm : (q, bestF ((fdsF W).filter fun d => decide ((cntV d q : Int) < W.hold q)) M) ∈ paperQ W tq (fdsF W) M := List.mem_map.mpr ⟨q, loose_mem.mpr ⟨by rw [pt.kq]; exact hq, hk⟩, rfl⟩
      have v := best_val ok (ds := (fdsF W).filter fun d => decide ((cntV d q : Int) < W.hold q)) (m := M) fun d hd => hv (List.mem_filter.mp hd).1
      refine ⟨_, v, of_decide_eq_true (hpq _ hm), ?_⟩
      have := of_decide_eq_true (hoq _ hm)
      dsimp only at this
      rw [cntD_V v.nd] at this
      exact this
  · intro e
    have s : So W LP LQ tp tq := by
      have e1 : tp = (soF W LP LQ).1 := congrArg Prod.fst e
      have e2 : tq = (soF W LP LQ).2 := congrArg Prod.snd e
      rw [e1, e2]
      exact so_F
    obtain ⟨s1, s2⟩ := s.sums l
    rw [hM] at s1
    subst s1
    have h0 : ∃ d ∈ fdsF W, (d.length : Int) = M := by
      obtain ⟨d, v, ed⟩ := l.dm
      obtain ⟨a, b, _⟩ := ord_fds pw v
      exact ⟨_, a, by rw [b, ed]⟩
    have hP : ∀ x ∈ paperP tp (fdsF W) M, (x.2.length : Int) = M ∧ dget x.2 x.1 = none := fun x hx => by
      obtain ⟨p, hp, ex⟩ := List.mem_map.mp hx
      obtain ⟨h1, h2⟩ := loose_mem.mp hp
      rw [pt.kp] at h1
      rw [s.p p h1] at h2
      obtain ⟨_, d, v, ed, hn⟩ := l.p1 p h1 (soP_loose.mp h2)
      obtain ⟨a, b, c, _⟩ := ord_fds pw v
      obtain ⟨b1, b2⟩ := best_len (m := M) (ds := (fdsF W).filter fun d => !(dget d p).isSome) ⟨_, List.mem_filter.mpr ⟨a, by rw [c, hn]; rfl⟩, by rw [b, ed]⟩
      rw [← ex]
      refine ⟨b2, ?_⟩
      have := (List.mem_filter.mp b1).2
      cases e : dget (bestF ((fdsF W).filter fun d => !(dget d p).isSome) M) p with
      | none => rfl
      | some z =>
        rw [e] at this
        cases this
    have hQ : ∀ x ∈ paperQ W tq (fdsF W) M, (x.2.length : Int) = M ∧ (cntD x.2 x.1 : Int) < W.hold x.1 := fun x hx => by
      obtain ⟨q, hq, ex⟩ := List.mem_map.mp hx
      obtain ⟨h1, h2⟩ := loose_mem.mp hq
      rw [pt.kq] at h1
      rw [s.q q h1] at h2
      obtain ⟨d, v, ed, hn⟩ := l.q1 q h1 ((soQ_loose l).mp h2)
      obtain ⟨a, b, _, c⟩ := ord_fds pw v
      obtain ⟨b1, b2⟩ := best_len (m := M) (ds := (fdsF W).filter fun d => decide ((cntV d q : Int) < W.hold q)) ⟨_, List.mem_filter.mpr ⟨a, by rw [c]; exact decide_eq_true hn⟩, by rw [b, ed]⟩
      rw [← ex]
      refine ⟨b2, ?_⟩
      obtain ⟨b3, b4⟩ := List.mem_filter.mp b1
      show (cntD (bestF _ M) q : Int) < _
      rw [cntD_V (hv b3).nd]
      exact of_decide_eq_true b4
    refine ⟨⟨s.fit l, s2⟩, (best_len h0).2, ⟨?_, ?_⟩, ?_, ?_⟩
    · exact List.all_eq_true.mpr fun x hx => decide_eq_true (hP x hx).1
    · exact List.all_eq_true.mpr fun x hx => decide_eq_true (hQ x hx).1
    · exact List.all_eq_true.mpr fun x hx => by rw [(hP x hx).2]; rfl
    · exact List.all_eq_true.mpr fun x hx => decide_eq_true (hQ x hx).2
theorem law_SL (W : Wo) (pre : PreS W) : ∃ tp tq, SLaw W tp tq := by
  have ok := pre.pre.wok
  obtain ⟨z, hz⟩ := rsp_ex ok
  have l := lse_of ok hz
  refine ⟨(sortsF W (keys z.2.1) (keys z.2.2)).1, (sortsF W (keys z.2.1) (keys z.2.2)).2, fun y hy => ?_, fun p hp q hq => ?_, keys_mapF, keys_mapF⟩
  · obtain ⟨z', hz', e⟩ := hy
    have l' := lse_of ok hz'
    rw [e]
    show sortsF W (keys z'.2.1) (keys z'.2.2) = sortsF W (keys z.2.1) (keys z.2.2)
    rw [sorts_so, sorts_so]
    exact so_congr ok (fun p hp => l'.same_p l hp) fun q hq => l'.same_q l hq
  · have pt : PreT W p q := ⟨(tell_iff rfl ok.pn p).mp hp, (tell_iff rfl ok.qn q).mp hq⟩
    rw [ask_eq pre pt, hold_iff pre l pt, sorts_so]
end
end G3
set_option maxRecDepth 100000
set_option maxHeartbeats 0
/-! Join. -/
namespace G3
open PySem PySem.Spec PyProof.Rows L2
section
variable {K : PySem.W.Frag} {mg : Str → Option Value} {x qual m : Str} {st : Stmt} {f C : Addr} {fd : FuncData} {ps : List Str} {h : Heap}
theorem fun_of (F : FunD K x qual (C8.fnArgs st) (C8.fnBody st) (C8.fnScope st) [] [] f fd) : C8.Fun K x qual st f fd := by
  obtain ⟨oc, od, dV, kV, doc, pm, an, cdv, ct, osl, e, lk, cd, _, _⟩ := F.ex
  exact ⟨oc, od, dV, kV, doc, pm, an, cdv, ct, osl, e, lk, cd⟩
theorem dn_of (F : FunD K x x (C8.fnArgs st) (C8.fnBody st) (C8.fnScope st) [] [] f fd) (hm : mg x = some (.ref f)) (b : Binds K fd ps []) : Dn K mg x st ps := ⟨f, fd, ⟨fun_of F, hm, F.kp⟩, b⟩
theorem mn_of (F : FunD K m qual (C8.fnArgs st) (C8.fnBody st) (C8.fnScope st) [] [] f fd) (hc : Cls K C) (me : Meth K C m f) (b : Binds K fd ps []) : Mn K C m qual st ps := ⟨f, fd, hc, me, fun_of F, b⟩
theorem words_ok (e : exB K = true) (H : Hp) : SqT K H (He.ga K "WORDS") ([Kd.loose, Kd.tight, Kd.paired].map Kd.v) := He.tupB_ok (Bool.and_eq_true_iff.mp e).1 H
theorem cread (e : PySem.W.readsIn K C (.type "type") = true) : ClX.CRead K C (.type "type") := by
  refine ⟨e, ?_⟩
  have e2 := e
  unfold PySem.W.readsIn at e2
  obtain ⟨h1, _⟩ := Bool.and_eq_true_iff.mp e2
  obtain ⟨h1, _⟩ := Bool.and_eq_true_iff.mp h1
  obtain ⟨h1, h3⟩ := Bool.and_eq_true_iff.mp h1
  obtain ⟨_, h2⟩ := Bool.and_eq_true_iff.mp h1
  unfold PySem.W.specialIn
  rw [beq_iff_eq.mp h2, Option.bind_some]
  exact beq_iff_eq.mp h3
theorem cval (e : cvB K = true) : ClX.CVal K (He.ga K "Lists") (.type "type") "__init__" (.ref (He.ma K (He.ga K "Lists") "__init__")) (.ref (He.ma K (He.ga K "Lists") "__init__")) := by
  refine ⟨?_, rfl⟩
  unfold cvB at e
  split at e
  · next a z => rw [z, of_decide_eq_true e]
  · cases e
theorem dn_checked (X : K.In h) (G : h.Ns mainGlobals mg) (c : He.SaysD fa fn K) : Dn K mg "checked" s_checked ["part", "rows", "most", "fault", "shaped"] := by
  obtain ⟨fd, F⟩ := c.def_ 0 rfl
  exact dn_of F (He.glo_ok X G (c.fact 17 (f := .glo "checked") rfl)) (FunD.bindsN F fun _ _ _ _ _ _ us hl => match us, hl with | [_, _, _, _, _], _ => rfl)
theorem dn_row_by (X : K.In h) (G : h.Ns mainGlobals mg) (c : He.SaysD fa fn K) : Dn K mg "row_by" s_row_by ["rows", "name"] := by
  obtain ⟨fd, F⟩ := c.def_ 1 rfl
  exact dn_of F (He.glo_ok X G (c.fact 18 (f := .glo "row_by") rfl)) (FunD.bindsN F fun _ _ _ _ _ _ us hl => match us, hl with | [_, _], _ => rfl)
theorem dn_place_in (X : K.In h) (G : h.Ns mainGlobals mg) (c : He.SaysD fa fn K) : Dn K mg "place_in" s_place_in ["groups", "name"] := by
  obtain ⟨fd, F⟩ := c.def_ 2 rfl
  exact dn_of F (He.glo_ok X G (c.fact 19 (f := .glo "place_in") rfl)) (FunD.bindsN F fun _ _ _ _ _ _ us hl => match us, hl with | [_, _], _ => rfl)
theorem dn_need_held (X : K.In h) (G : h.Ns mainGlobals mg) (c : He.SaysD fa fn K) : Dn K mg "need_held" s_need_held ["lists"] := by
  obtain ⟨fd, F⟩ := c.def_ 3 rfl
  exact dn_of F (He.glo_ok X G (c.fact 20 (f := .glo "need_held") rfl)) (FunD.bindsN F fun _ _ _ _ _ _ us hl => match us, hl with | [_], _ => rfl)
theorem dn_first_group (X : K.In h) (G : h.Ns mainGlobals mg) (c : He.SaysD fa fn K) : Dn K mg "first_group" s_first_group ["lists", "person"] := by
  obtain ⟨fd, F⟩ := c.def_ 4 rfl
  exact dn_of F (He.glo_ok X G (c.fact 21 (f := .glo "first_group") rfl)) (FunD.bindsN F fun _ _ _ _ _ _ us hl => match us, hl with | [_, _], _ => rfl)
theorem dn_firsts_wishes (X : K.In h) (G : h.Ns mainGlobals mg) (c : He.SaysD fa fn K) : Dn K mg "firsts_wishes" s_firsts_wishes ["lists"] := by
  obtain ⟨fd, F⟩ := c.def_ 5 rfl
  exact dn_of F (He.glo_ok X G (c.fact 22 (f := .glo "firsts_wishes") rfl)) (FunD.bindsN F fun _ _ _ _ _ _ us hl => match us, hl with | [_], _ => rfl)
theorem dn_in_order (X : K.In h) (G : h.Ns mainGlobals mg) (c : He.SaysD fa fn K) : Dn K mg "in_order" s_in_order ["lists", "dealing"] := by
  obtain ⟨fd, F⟩ := c.def_ 6 rfl
  exact dn_of F (He.glo_ok X G (c.fact 23 (f := .glo "in_order") rfl)) (FunD.bindsN F fun _ _ _ _ _ _ us hl => match us, hl with | [_, _], _ => rfl)
theorem dn_has_room (X : K.In h) (G : h.Ns mainGlobals mg) (c : He.SaysD fa fn K) : Dn K mg "has_room" s_has_room ["rooms", "dealing", "place"] := by
  obtain ⟨fd, F⟩ := c.def_ 7 rfl
  exact dn_of F (He.glo_ok X G (c.fact 24 (f := .glo "has_room") rfl)) (FunD.bindsN F fun _ _ _ _ _ _ us hl => match us, hl with | [_, _, _], _ => rfl)
theorem dn_reach (X : K.In h) (G : h.Ns mainGlobals mg) (c : He.SaysD fa fn K) : Dn K mg "reach" s_reach ["wishes", "rooms", "dealing", "starts"] := by
  obtain ⟨fd, F⟩ := c.def_ 8 rfl
  exact dn_of F (He.glo_ok X G (c.fact 25 (f := .glo "reach") rfl)) (FunD.bindsN F fun _ _ _ _ _ _ us hl => match us, hl with | [_, _, _, _], _ => rfl)
theorem dn_led (X : K.In h) (G : h.Ns mainGlobals mg) (c : He.SaysD fa fn K) : Dn K mg "led" s_led ["dealing", "came", "looked", "end"] := by
  obtain ⟨fd, F⟩ := c.def_ 9 rfl
  exact dn_of F (He.glo_ok X G (c.fact 26 (f := .glo "led") rfl)) (FunD.bindsN F fun _ _ _ _ _ _ us hl => match us, hl with | [_, _, _, _], _ => rfl)
theorem dn_rooms_of (X : K.In h) (G : h.Ns mainGlobals mg) (c : He.SaysD fa fn K) : Dn K mg "rooms_of" s_rooms_of ["lists"] := by
  obtain ⟨fd, F⟩ := c.def_ 10 rfl
  exact dn_of F (He.glo_ok X G (c.fact 27 (f := .glo "rooms_of") rfl)) (FunD.bindsN F fun _ _ _ _ _ _ us hl => match us, hl with | [_], _ => rfl)
theorem dn_grown (X : K.In h) (G : h.Ns mainGlobals mg) (c : He.SaysD fa fn K) : Dn K mg "grown" s_grown ["wishes", "rooms", "dealing", "wanting"] := by
  obtain ⟨fd, F⟩ := c.def_ 11 rfl
  exact dn_of F (He.glo_ok X G (c.fact 28 (f := .glo "grown") rfl)) (FunD.bindsN F fun _ _ _ _ _ _ us hl => match us, hl with | [_, _, _, _], _ => rfl)
theorem dn_greatest_firsts (X : K.In h) (G : h.Ns mainGlobals mg) (c : He.SaysD fa fn K) : Dn K mg "greatest_firsts" s_greatest_firsts ["lists"] := by
  obtain ⟨fd, F⟩ := c.def_ 12 rfl
  exact dn_of F (He.glo_ok X G (c.fact 29 (f := .glo "greatest_firsts") rfl)) (FunD.bindsN F fun _ _ _ _ _ _ us hl => match us, hl with | [_], _ => rfl)
theorem dn_firsts_without (X : K.In h) (G : h.Ns mainGlobals mg) (c : He.SaysD fa fn K) : Dn K mg "firsts_without" s_firsts_without ["lists", "whole", "out", "less"] := by
  obtain ⟨fd, F⟩ := c.def_ 13 rfl
  exact dn_of F (He.glo_ok X G (c.fact 30 (f := .glo "firsts_without") rfl)) (FunD.bindsN F fun _ _ _ _ _ _ us hl => match us, hl with | [_, _, _, _], _ => rfl)
theorem dn_sorts_paper (X : K.In h) (G : h.Ns mainGlobals mg) (c : He.SaysD fa fn K) : Dn K mg "sorts_paper" s_sorts_paper ["lists"] := by
  obtain ⟨fd, F⟩ := c.def_ 14 rfl
  exact dn_of F (He.glo_ok X G (c.fact 31 (f := .glo "sorts_paper") rfl)) (FunD.bindsN F fun _ _ _ _ _ _ us hl => match us, hl with | [_], _ => rfl)
theorem dn_sorts (X : K.In h) (G : h.Ns mainGlobals mg) (c : He.SaysD fa fn K) : Dn K mg "sorts" s_sorts ["lists"] := by
  obtain ⟨fd, F⟩ := c.def_ 15 rfl
  exact dn_of F (He.glo_ok X G (c.fact 32 (f := .glo "sorts") rfl)) (FunD.bindsN F fun _ _ _ _ _ _ us hl => match us, hl with | [_], _ => rfl)
theorem dn_key_faults (X : K.In h) (G : h.Ns mainGlobals mg) (c : He.SaysD fa fn K) : Dn K mg "key_faults" s_key_faults ["lists", "dealing"] := by
  obtain ⟨fd, F⟩ := c.def_ 16 rfl
  exact dn_of F (He.glo_ok X G (c.fact 33 (f := .glo "key_faults") rfl)) (FunD.bindsN F fun _ _ _ _ _ _ us hl => match us, hl with | [_, _], _ => rfl)
theorem dn_faults (X : K.In h) (G : h.Ns mainGlobals mg) (c : He.SaysD fa fn K) : Dn K mg "faults" s_faults ["lists", "thing"] := by
  obtain ⟨fd, F⟩ := c.def_ 17 rfl
  exact dn_of F (He.glo_ok X G (c.fact 34 (f := .glo "faults") rfl)) (FunD.bindsN F fun _ _ _ _ _ _ us hl => match us, hl with | [_, _], _ => rfl)
theorem dn_is_dealing (X : K.In h) (G : h.Ns mainGlobals mg) (c : He.SaysD fa fn K) : Dn K mg "is_dealing" s_is_dealing ["lists", "thing"] := by
  obtain ⟨fd, F⟩ := c.def_ 18 rfl
  exact dn_of F (He.glo_ok X G (c.fact 35 (f := .glo "is_dealing") rfl)) (FunD.bindsN F fun _ _ _ _ _ _ us hl => match us, hl with | [_, _], _ => rfl)
theorem dn_is_told_of (X : K.In h) (G : h.Ns mainGlobals mg) (c : He.SaysD fa fn K) : Dn K mg "is_told_of" s_is_told_of ["names", "thing"] := by
  obtain ⟨fd, F⟩ := c.def_ 19 rfl
  exact dn_of F (He.glo_ok X G (c.fact 36 (f := .glo "is_told_of") rfl)) (FunD.bindsN F fun _ _ _ _ _ _ us hl => match us, hl with | [_, _], _ => rfl)
theorem dn_are_sorts (X : K.In h) (G : h.Ns mainGlobals mg) (c : He.SaysD fa fn K) : Dn K mg "are_sorts" s_are_sorts ["lists", "thing"] := by
  obtain ⟨fd, F⟩ := c.def_ 20 rfl
  exact dn_of F (He.glo_ok X G (c.fact 37 (f := .glo "are_sorts") rfl)) (FunD.bindsN F fun _ _ _ _ _ _ us hl => match us, hl with | [_, _], _ => rfl)
theorem dn_first_pairs (X : K.In h) (G : h.Ns mainGlobals mg) (c : He.SaysD fa fn K) : Dn K mg "first_pairs" s_first_pairs ["lists"] := by
  obtain ⟨fd, F⟩ := c.def_ 21 rfl
  exact dn_of F (He.glo_ok X G (c.fact 38 (f := .glo "first_pairs") rfl)) (FunD.bindsN F fun _ _ _ _ _ _ us hl => match us, hl with | [_], _ => rfl)
theorem dn_holders_with (X : K.In h) (G : h.Ns mainGlobals mg) (c : He.SaysD fa fn K) : Dn K mg "holders_with" s_holders_with ["lists", "places", "word"] := by
  obtain ⟨fd, F⟩ := c.def_ 22 rfl
  exact dn_of F (He.glo_ok X G (c.fact 39 (f := .glo "holders_with") rfl)) (FunD.bindsN F fun _ _ _ _ _ _ us hl => match us, hl with | [_, _, _], _ => rfl)
theorem dn_paired_with_group (X : K.In h) (G : h.Ns mainGlobals mg) (c : He.SaysD fa fn K) : Dn K mg "paired_with_group" s_paired_with_group ["lists", "people"] := by
  obtain ⟨fd, F⟩ := c.def_ 23 rfl
  exact dn_of F (He.glo_ok X G (c.fact 40 (f := .glo "paired_with_group") rfl)) (FunD.bindsN F fun _ _ _ _ _ _ us hl => match us, hl with | [_, _], _ => rfl)
theorem dn_is_firsts (X : K.In h) (G : h.Ns mainGlobals mg) (c : He.SaysD fa fn K) : Dn K mg "is_firsts" s_is_firsts ["lists", "thing", "many"] := by
  obtain ⟨fd, F⟩ := c.def_ 24 rfl
  exact dn_of F (He.glo_ok X G (c.fact 41 (f := .glo "is_firsts") rfl)) (FunD.bindsN F fun _ _ _ _ _ _ us hl => match us, hl with | [_, _, _], _ => rfl)
theorem dn_sorts_fit (X : K.In h) (G : h.Ns mainGlobals mg) (c : He.SaysD fa fn K) : Dn K mg "sorts_fit" s_sorts_fit ["lists", "people", "places"] := by
  obtain ⟨fd, F⟩ := c.def_ 25 rfl
  exact dn_of F (He.glo_ok X G (c.fact 42 (f := .glo "sorts_fit") rfl)) (FunD.bindsN F fun _ _ _ _ _ _ us hl => match us, hl with | [_, _, _], _ => rfl)
theorem dn_are_loose_papers (X : K.In h) (G : h.Ns mainGlobals mg) (c : He.SaysD fa fn K) : Dn K mg "are_loose_papers" s_are_loose_papers ["lists", "told", "thing", "many"] := by
  obtain ⟨fd, F⟩ := c.def_ 26 rfl
  exact dn_of F (He.glo_ok X G (c.fact 43 (f := .glo "are_loose_papers") rfl)) (FunD.bindsN F fun _ _ _ _ _ _ us hl => match us, hl with | [_, _, _, _], _ => rfl)
theorem dn_sorts_hold (X : K.In h) (G : h.Ns mainGlobals mg) (c : He.SaysD fa fn K) : Dn K mg "sorts_hold" s_sorts_hold ["lists", "told", "paper"] := by
  obtain ⟨fd, F⟩ := c.def_ 27 rfl
  exact dn_of F (He.glo_ok X G (c.fact 44 (f := .glo "sorts_hold") rfl)) (FunD.bindsN F fun _ _ _ _ _ _ us hl => match us, hl with | [_, _, _], _ => rfl)
theorem dn_is_whole (X : K.In h) (G : h.Ns mainGlobals mg) (c : He.SaysD fa fn K) : Dn K mg "is_whole" s_is_whole ["thing"] := by
  obtain ⟨fd, F⟩ := c.def_ 28 rfl
  exact dn_of F (He.glo_ok X G (c.fact 45 (f := .glo "is_whole") rfl)) (FunD.bindsN F fun _ _ _ _ _ _ us hl => match us, hl with | [_], _ => rfl)
theorem dn_is_within (X : K.In h) (G : h.Ns mainGlobals mg) (c : He.SaysD fa fn K) : Dn K mg "is_within" s_is_within ["thing", "low", "high"] := by
  obtain ⟨fd, F⟩ := c.def_ 29 rfl
  exact dn_of F (He.glo_ok X G (c.fact 46 (f := .glo "is_within") rfl)) (FunD.bindsN F fun _ _ _ _ _ _ us hl => match us, hl with | [_, _, _], _ => rfl)
theorem dn_are_signs (X : K.In h) (G : h.Ns mainGlobals mg) (c : He.SaysD fa fn K) : Dn K mg "are_signs" s_are_signs ["text", "signs"] := by
  obtain ⟨fd, F⟩ := c.def_ 30 rfl
  exact dn_of F (He.glo_ok X G (c.fact 47 (f := .glo "are_signs") rfl)) (FunD.bindsN F fun _ _ _ _ _ _ us hl => match us, hl with | [_, _], _ => rfl)
theorem dn_is_name (X : K.In h) (G : h.Ns mainGlobals mg) (c : He.SaysD fa fn K) : Dn K mg "is_name" s_is_name ["thing"] := by
  obtain ⟨fd, F⟩ := c.def_ 31 rfl
  exact dn_of F (He.glo_ok X G (c.fact 48 (f := .glo "is_name") rfl)) (FunD.bindsN F fun _ _ _ _ _ _ us hl => match us, hl with | [_], _ => rfl)
theorem dn_head_fault (X : K.In h) (G : h.Ns mainGlobals mg) (c : He.SaysD fa fn K) : Dn K mg "head_fault" s_head_fault ["kept", "row"] := by
  obtain ⟨fd, F⟩ := c.def_ 32 rfl
  exact dn_of F (He.glo_ok X G (c.fact 49 (f := .glo "head_fault") rfl)) (FunD.bindsN F fun _ _ _ _ _ _ us hl => match us, hl with | [_, _], _ => rfl)
theorem dn_is_group (X : K.In h) (G : h.Ns mainGlobals mg) (c : He.SaysD fa fn K) : Dn K mg "is_group" s_is_group ["thing"] := by
  obtain ⟨fd, F⟩ := c.def_ 33 rfl
  exact dn_of F (He.glo_ok X G (c.fact 50 (f := .glo "is_group") rfl)) (FunD.bindsN F fun _ _ _ _ _ _ us hl => match us, hl with | [_], _ => rfl)
theorem dn_names_in (X : K.In h) (G : h.Ns mainGlobals mg) (c : He.SaysD fa fn K) : Dn K mg "names_in" s_names_in ["groups"] := by
  obtain ⟨fd, F⟩ := c.def_ 34 rfl
  exact dn_of F (He.glo_ok X G (c.fact 51 (f := .glo "names_in") rfl)) (FunD.bindsN F fun _ _ _ _ _ _ us hl => match us, hl with | [_], _ => rfl)
theorem dn_groups_shaped (X : K.In h) (G : h.Ns mainGlobals mg) (c : He.SaysD fa fn K) : Dn K mg "groups_shaped" s_groups_shaped ["groups"] := by
  obtain ⟨fd, F⟩ := c.def_ 35 rfl
  exact dn_of F (He.glo_ok X G (c.fact 52 (f := .glo "groups_shaped") rfl)) (FunD.bindsN F fun _ _ _ _ _ _ us hl => match us, hl with | [_], _ => rfl)
theorem dn_many_fault (X : K.In h) (G : h.Ns mainGlobals mg) (c : He.SaysD fa fn K) : Dn K mg "many_fault" s_many_fault ["kept", "many"] := by
  obtain ⟨fd, F⟩ := c.def_ 36 rfl
  exact dn_of F (He.glo_ok X G (c.fact 53 (f := .glo "many_fault") rfl)) (FunD.bindsN F fun _ _ _ _ _ _ us hl => match us, hl with | [_, _], _ => rfl)
theorem dn_many_shaped (X : K.In h) (G : h.Ns mainGlobals mg) (c : He.SaysD fa fn K) : Dn K mg "many_shaped" s_many_shaped ["many"] := by
  obtain ⟨fd, F⟩ := c.def_ 37 rfl
  exact dn_of F (He.glo_ok X G (c.fact 54 (f := .glo "many_shaped") rfl)) (FunD.bindsN F fun _ _ _ _ _ _ us hl => match us, hl with | [_], _ => rfl)
theorem dn_groups_fault (X : K.In h) (G : h.Ns mainGlobals mg) (c : He.SaysD fa fn K) : Dn K mg "groups_fault" s_groups_fault ["kept", "groups"] := by
  obtain ⟨fd, F⟩ := c.def_ 38 rfl
  exact dn_of F (He.glo_ok X G (c.fact 55 (f := .glo "groups_fault") rfl)) (FunD.bindsN F fun _ _ _ _ _ _ us hl => match us, hl with | [_, _], _ => rfl)
theorem dn_need_known (X : K.In h) (G : h.Ns mainGlobals mg) (c : He.SaysD fa fn K) : Dn K mg "need_known" s_need_known ["part", "rows", "names"] := by
  obtain ⟨fd, F⟩ := c.def_ 39 rfl
  exact dn_of F (He.glo_ok X G (c.fact 56 (f := .glo "need_known") rfl)) (FunD.bindsN F fun _ _ _ _ _ _ us hl => match us, hl with | [_, _, _], _ => rfl)
theorem dn_law_take (X : K.In h) (G : h.Ns mainGlobals mg) (c : He.SaysD fa fn K) : Dn K mg "_law_take" s_law_take ["_law_box_here", "_law_many_here"] := by
  obtain ⟨fd, F⟩ := c.def_ 40 rfl
  exact dn_of F (He.glo_ok X G (c.fact 57 (f := .glo "_law_take") rfl)) (FunD.bindsN F fun _ _ _ _ _ _ us hl => match us, hl with | [_, _], _ => rfl)
theorem dn_law_cell (X : K.In h) (G : h.Ns mainGlobals mg) (c : He.SaysD fa fn K) : Dn K mg "_law_cell" s_law_cell ["_law_script", "_law_k"] := by
  obtain ⟨fd, F⟩ := c.def_ 41 rfl
  exact dn_of F (He.glo_ok X G (c.fact 58 (f := .glo "_law_cell") rfl)) (FunD.bindsN F fun _ _ _ _ _ _ us hl => match us, hl with | [_, _], _ => rfl)
theorem dn_law_box (X : K.In h) (G : h.Ns mainGlobals mg) (c : He.SaysD fa fn K) : Dn K mg "_law_box" s_law_box ["_law_cell_here"] := by
  obtain ⟨fd, F⟩ := c.def_ 42 rfl
  exact dn_of F (He.glo_ok X G (c.fact 59 (f := .glo "_law_box") rfl)) (FunD.bindsN F fun _ _ _ _ _ _ us hl => match us, hl with | [_], _ => rfl)
theorem dn_law_names (X : K.In h) (G : h.Ns mainGlobals mg) (c : He.SaysD fa fn K) : Dn K mg "_law_names" s_law_names ["_law_box_here", "_law_many_here"] := by
  obtain ⟨fd, F⟩ := c.def_ 43 rfl
  exact dn_of F (He.glo_ok X G (c.fact 60 (f := .glo "_law_names") rfl)) (FunD.bindsN F fun _ _ _ _ _ _ us hl => match us, hl with | [_, _], _ => rfl)
theorem dn_law_list (X : K.In h) (G : h.Ns mainGlobals mg) (c : He.SaysD fa fn K) : Dn K mg "_law_list" s_law_list ["_law_box_here", "_law_names_here", "_law_near", "_law_ties"] := by
  obtain ⟨fd, F⟩ := c.def_ 44 rfl
  exact dn_of F (He.glo_ok X G (c.fact 61 (f := .glo "_law_list") rfl)) (FunD.bindsN F fun _ _ _ _ _ _ us hl => match us, hl with | [_, _, _, _], _ => rfl)
theorem dn_law_world (X : K.In h) (G : h.Ns mainGlobals mg) (c : He.SaysD fa fn K) : Dn K mg "_law_world" s_law_world ["_law_box_here", "_law_ties", "_law_most", "_law_holders_here"] := by
  obtain ⟨fd, F⟩ := c.def_ 45 rfl
  exact dn_of F (He.glo_ok X G (c.fact 62 (f := .glo "_law_world") rfl)) (FunD.bindsN F fun _ _ _ _ _ _ us hl => match us, hl with | [_, _, _, _], _ => rfl)
theorem dn_law_lists (X : K.In h) (G : h.Ns mainGlobals mg) (c : He.SaysD fa fn K) : Dn K mg "_law_lists" s_law_lists ["_law_world_here"] := by
  obtain ⟨fd, F⟩ := c.def_ 46 rfl
  exact dn_of F (He.glo_ok X G (c.fact 63 (f := .glo "_law_lists") rfl)) (FunD.bindsN F fun _ _ _ _ _ _ us hl => match us, hl with | [_], _ => rfl)
theorem dn_law_ranks (X : K.In h) (G : h.Ns mainGlobals mg) (c : He.SaysD fa fn K) : Dn K mg "_law_ranks" s_law_ranks ["_law_rows"] := by
  obtain ⟨fd, F⟩ := c.def_ 47 rfl
  exact dn_of F (He.glo_ok X G (c.fact 64 (f := .glo "_law_ranks") rfl)) (FunD.bindsN F fun _ _ _ _ _ _ us hl => match us, hl with | [_], _ => rfl)
theorem dn_law_chosen (X : K.In h) (G : h.Ns mainGlobals mg) (c : He.SaysD fa fn K) : Dn K mg "_law_chosen" s_law_chosen ["_law_world_here", "_law_person"] := by
  obtain ⟨fd, F⟩ := c.def_ 48 rfl
  exact dn_of F (He.glo_ok X G (c.fact 65 (f := .glo "_law_chosen") rfl)) (FunD.bindsN F fun _ _ _ _ _ _ us hl => match us, hl with | [_, _], _ => rfl)
theorem dn_law_holders (X : K.In h) (G : h.Ns mainGlobals mg) (c : He.SaysD fa fn K) : Dn K mg "_law_holders" s_law_holders ["_law_world_here"] := by
  obtain ⟨fd, F⟩ := c.def_ 49 rfl
  exact dn_of F (He.glo_ok X G (c.fact 66 (f := .glo "_law_holders") rfl)) (FunD.bindsN F fun _ _ _ _ _ _ us hl => match us, hl with | [_], _ => rfl)
theorem dn_law_is_dealing (X : K.In h) (G : h.Ns mainGlobals mg) (c : He.SaysD fa fn K) : Dn K mg "_law_is_dealing" s_law_is_dealing ["_law_world_here", "_law_dealing"] := by
  obtain ⟨fd, F⟩ := c.def_ 50 rfl
  exact dn_of F (He.glo_ok X G (c.fact 67 (f := .glo "_law_is_dealing") rfl)) (FunD.bindsN F fun _ _ _ _ _ _ us hl => match us, hl with | [_, _], _ => rfl)
theorem dn_law_has_room (X : K.In h) (G : h.Ns mainGlobals mg) (c : He.SaysD fa fn K) : Dn K mg "_law_has_room" s_law_has_room ["_law_world_here", "_law_dealing", "_law_place"] := by
  obtain ⟨fd, F⟩ := c.def_ 51 rfl
  exact dn_of F (He.glo_ok X G (c.fact 68 (f := .glo "_law_has_room") rfl)) (FunD.bindsN F fun _ _ _ _ _ _ us hl => match us, hl with | [_, _, _], _ => rfl)
theorem dn_law_firsts (X : K.In h) (G : h.Ns mainGlobals mg) (c : He.SaysD fa fn K) : Dn K mg "_law_firsts" s_law_firsts ["_law_world_here"] := by
  obtain ⟨fd, F⟩ := c.def_ 52 rfl
  exact dn_of F (He.glo_ok X G (c.fact 69 (f := .glo "_law_firsts") rfl)) (FunD.bindsN F fun _ _ _ _ _ _ us hl => match us, hl with | [_], _ => rfl)
theorem dn_law_is_firsts (X : K.In h) (G : h.Ns mainGlobals mg) (c : He.SaysD fa fn K) : Dn K mg "_law_is_firsts" s_law_is_firsts ["_law_world_here", "_law_dealing", "_law_many_here"] := by
  obtain ⟨fd, F⟩ := c.def_ 53 rfl
  exact dn_of F (He.glo_ok X G (c.fact 70 (f := .glo "_law_is_firsts") rfl)) (FunD.bindsN F fun _ _ _ _ _ _ us hl => match us, hl with | [_, _, _], _ => rfl)
theorem dn_law_told_of (X : K.In h) (G : h.Ns mainGlobals mg) (c : He.SaysD fa fn K) : Dn K mg "_law_told_of" s_law_told_of ["_law_names_here", "_law_thing"] := by
  obtain ⟨fd, F⟩ := c.def_ 54 rfl
  exact dn_of F (He.glo_ok X G (c.fact 71 (f := .glo "_law_told_of") rfl)) (FunD.bindsN F fun _ _ _ _ _ _ us hl => match us, hl with | [_, _], _ => rfl)
theorem dn_law_dealings (X : K.In h) (G : h.Ns mainGlobals mg) (c : He.SaysD fa fn K) : Dn K mg "_law_dealings" s_law_dealings ["_law_world_here"] := by
  obtain ⟨fd, F⟩ := c.def_ 55 rfl
  exact dn_of F (He.glo_ok X G (c.fact 72 (f := .glo "_law_dealings") rfl)) (FunD.bindsN F fun _ _ _ _ _ _ us hl => match us, hl with | [_], _ => rfl)
theorem dn_law_fit (X : K.In h) (G : h.Ns mainGlobals mg) (c : He.SaysD fa fn K) : Dn K mg "_law_fit" s_law_fit ["_law_world_here", "_law_people", "_law_places"] := by
  obtain ⟨fd, F⟩ := c.def_ 56 rfl
  exact dn_of F (He.glo_ok X G (c.fact 73 (f := .glo "_law_fit") rfl)) (FunD.bindsN F fun _ _ _ _ _ _ us hl => match us, hl with | [_, _, _], _ => rfl)
theorem dn_law_papers_right (X : K.In h) (G : h.Ns mainGlobals mg) (c : He.SaysD fa fn K) : Dn K mg "_law_papers_right" s_law_papers_right ["_law_world_here", "_law_kinds", "_law_thing", "_law_many_here"] := by
  obtain ⟨fd, F⟩ := c.def_ 57 rfl
  exact dn_of F (He.glo_ok X G (c.fact 74 (f := .glo "_law_papers_right") rfl)) (FunD.bindsN F fun _ _ _ _ _ _ us hl => match us, hl with | [_, _, _, _], _ => rfl)
theorem dn_law_sorts_right (X : K.In h) (G : h.Ns mainGlobals mg) (c : He.SaysD fa fn K) : Dn K mg "_law_sorts_right" s_law_sorts_right ["_law_world_here", "_law_told", "_law_paper_here"] := by
  obtain ⟨fd, F⟩ := c.def_ 58 rfl
  exact dn_of F (He.glo_ok X G (c.fact 75 (f := .glo "_law_sorts_right") rfl)) (FunD.bindsN F fun _ _ _ _ _ _ us hl => match us, hl with | [_, _, _], _ => rfl)
theorem dn_law_many (X : K.In h) (G : h.Ns mainGlobals mg) (c : He.SaysD fa fn K) : Dn K mg "_law_many" s_law_many ["_law_world_here", "_law_told"] := by
  obtain ⟨fd, F⟩ := c.def_ 59 rfl
  exact dn_of F (He.glo_ok X G (c.fact 76 (f := .glo "_law_many") rfl)) (FunD.bindsN F fun _ _ _ _ _ _ us hl => match us, hl with | [_, _], _ => rfl)
theorem dn_law_best (X : K.In h) (G : h.Ns mainGlobals mg) (c : He.SaysD fa fn K) : Dn K mg "_law_best" s_law_best ["_law_some", "_law_many_here"] := by
  obtain ⟨fd, F⟩ := c.def_ 60 rfl
  exact dn_of F (He.glo_ok X G (c.fact 77 (f := .glo "_law_best") rfl)) (FunD.bindsN F fun _ _ _ _ _ _ us hl => match us, hl with | [_, _], _ => rfl)
theorem dn_law_paper (X : K.In h) (G : h.Ns mainGlobals mg) (c : He.SaysD fa fn K) : Dn K mg "_law_paper" s_law_paper ["_law_world_here", "_law_told", "_law_dealings_here"] := by
  obtain ⟨fd, F⟩ := c.def_ 61 rfl
  exact dn_of F (He.glo_ok X G (c.fact 78 (f := .glo "_law_paper") rfl)) (FunD.bindsN F fun _ _ _ _ _ _ us hl => match us, hl with | [_, _, _], _ => rfl)
theorem dn_law_tellings (X : K.In h) (G : h.Ns mainGlobals mg) (c : He.SaysD fa fn K) : Dn K mg "_law_tellings" s_law_tellings ["_law_names_here"] := by
  obtain ⟨fd, F⟩ := c.def_ 62 rfl
  exact dn_of F (He.glo_ok X G (c.fact 79 (f := .glo "_law_tellings") rfl)) (FunD.bindsN F fun _ _ _ _ _ _ us hl => match us, hl with | [_], _ => rfl)
theorem dn_law_asked (X : K.In h) (G : h.Ns mainGlobals mg) (c : He.SaysD fa fn K) : Dn K mg "_law_asked" s_law_asked ["_law_world_here", "_law_lists_here", "_law_told", "_law_dealings_here"] := by
  obtain ⟨fd, F⟩ := c.def_ 63 rfl
  exact dn_of F (He.glo_ok X G (c.fact 80 (f := .glo "_law_asked") rfl)) (FunD.bindsN F fun _ _ _ _ _ _ us hl => match us, hl with | [_, _, _, _], _ => rfl)
theorem dn_law_all_right (X : K.In h) (G : h.Ns mainGlobals mg) (c : He.SaysD fa fn K) : Dn K mg "_law_all_right" s_law_all_right ["_law_world_here"] := by
  obtain ⟨fd, F⟩ := c.def_ 64 rfl
  exact dn_of F (He.glo_ok X G (c.fact 81 (f := .glo "_law_all_right") rfl)) (FunD.bindsN F fun _ _ _ _ _ _ us hl => match us, hl with | [_], _ => rfl)
theorem dn_law_one_otherwise (X : K.In h) (G : h.Ns mainGlobals mg) (c : He.SaysD fa fn K) : Dn K mg "_law_one_otherwise" s_law_one_otherwise ["_law_box_here", "_law_told"] := by
  obtain ⟨fd, F⟩ := c.def_ 65 rfl
  exact dn_of F (He.glo_ok X G (c.fact 82 (f := .glo "_law_one_otherwise") rfl)) (FunD.bindsN F fun _ _ _ _ _ _ us hl => match us, hl with | [_, _], _ => rfl)
theorem dn_law (X : K.In h) (G : h.Ns mainGlobals mg) (c : He.SaysD fa fn K) : Dn K mg "law" s_law ["_law_script"] := by
  obtain ⟨fd, F⟩ := c.def_ 66 rfl
  exact dn_of F (He.glo_ok X G (c.fact 83 (f := .glo "law") rfl)) (FunD.bindsN F fun _ _ _ _ _ _ us hl => match us, hl with | [_], _ => rfl)
theorem mn_Held_checked_places (c : He.SaysD fa fn K) : Mn K (He.ga K "Held") "checked_places" "Held.checked_places" s_Held_checked_places ["self", "places"] := by
  obtain ⟨fd, F⟩ := c.def_ 67 rfl
  exact mn_of F (He.cls_ok (c.fact 84 (f := .cls "Held") rfl)) (He.meth_ok (c.fact 88 (f := .meth "Held" "checked_places") rfl)) (FunD.bindsN F fun _ _ _ _ _ _ us hl => match us, hl with | [_, _], _ => rfl)
theorem mn_Held_need_known_people (c : He.SaysD fa fn K) : Mn K (He.ga K "Held") "need_known_people" "Held.need_known_people" s_Held_need_known_people ["self"] := by
  obtain ⟨fd, F⟩ := c.def_ 68 rfl
  exact mn_of F (He.cls_ok (c.fact 84 (f := .cls "Held") rfl)) (He.meth_ok (c.fact 89 (f := .meth "Held" "need_known_people") rfl)) (FunD.bindsN F fun _ _ _ _ _ _ us hl => match us, hl with | [_], _ => rfl)
theorem mn_Lists_people (c : He.SaysD fa fn K) : Mn K (He.ga K "Held") "people" "Lists.people" s_Lists_people ["self"] := by
  obtain ⟨fd, F⟩ := c.def_ 69 rfl
  exact mn_of F (He.cls_ok (c.fact 84 (f := .cls "Held") rfl)) (He.meth_ok (c.fact 90 (f := .meth "Held" "people") rfl)) (FunD.bindsN F fun _ _ _ _ _ _ us hl => match us, hl with | [_], _ => rfl)
theorem mn_Lists_places (c : He.SaysD fa fn K) : Mn K (He.ga K "Held") "places" "Lists.places" s_Lists_places ["self"] := by
  obtain ⟨fd, F⟩ := c.def_ 70 rfl
  exact mn_of F (He.cls_ok (c.fact 84 (f := .cls "Held") rfl)) (He.meth_ok (c.fact 91 (f := .meth "Held" "places") rfl)) (FunD.bindsN F fun _ _ _ _ _ _ us hl => match us, hl with | [_], _ => rfl)
theorem mn_Lists_is_person (c : He.SaysD fa fn K) : Mn K (He.ga K "Held") "is_person" "Lists.is_person" s_Lists_is_person ["self", "thing"] := by
  obtain ⟨fd, F⟩ := c.def_ 71 rfl
  exact mn_of F (He.cls_ok (c.fact 84 (f := .cls "Held") rfl)) (He.meth_ok (c.fact 92 (f := .meth "Held" "is_person") rfl)) (FunD.bindsN F fun _ _ _ _ _ _ us hl => match us, hl with | [_, _], _ => rfl)
theorem mn_Lists_is_place (c : He.SaysD fa fn K) : Mn K (He.ga K "Held") "is_place" "Lists.is_place" s_Lists_is_place ["self", "thing"] := by
  obtain ⟨fd, F⟩ := c.def_ 72 rfl
  exact mn_of F (He.cls_ok (c.fact 84 (f := .cls "Held") rfl)) (He.meth_ok (c.fact 93 (f := .meth "Held" "is_place") rfl)) (FunD.bindsN F fun _ _ _ _ _ _ us hl => match us, hl with | [_, _], _ => rfl)
theorem mn_Lists_person_row (c : He.SaysD fa fn K) : Mn K (He.ga K "Held") "person_row" "Lists.person_row" s_Lists_person_row ["self", "person"] := by
  obtain ⟨fd, F⟩ := c.def_ 73 rfl
  exact mn_of F (He.cls_ok (c.fact 84 (f := .cls "Held") rfl)) (He.meth_ok (c.fact 94 (f := .meth "Held" "person_row") rfl)) (FunD.bindsN F fun _ _ _ _ _ _ us hl => match us, hl with | [_, _], _ => rfl)
theorem mn_Lists_place_row (c : He.SaysD fa fn K) : Mn K (He.ga K "Held") "place_row" "Lists.place_row" s_Lists_place_row ["self", "place"] := by
  obtain ⟨fd, F⟩ := c.def_ 74 rfl
  exact mn_of F (He.cls_ok (c.fact 84 (f := .cls "Held") rfl)) (He.meth_ok (c.fact 95 (f := .meth "Held" "place_row") rfl)) (FunD.bindsN F fun _ _ _ _ _ _ us hl => match us, hl with | [_, _], _ => rfl)
theorem mn_Lists_groups_of (c : He.SaysD fa fn K) : Mn K (He.ga K "Held") "groups_of" "Lists.groups_of" s_Lists_groups_of ["self", "person"] := by
  obtain ⟨fd, F⟩ := c.def_ 75 rfl
  exact mn_of F (He.cls_ok (c.fact 84 (f := .cls "Held") rfl)) (He.meth_ok (c.fact 96 (f := .meth "Held" "groups_of") rfl)) (FunD.bindsN F fun _ _ _ _ _ _ us hl => match us, hl with | [_, _], _ => rfl)
theorem mn_Held_holders (c : He.SaysD fa fn K) : Mn K (He.ga K "Held") "holders" "Held.holders" s_Held_holders ["self", "place"] := by
  obtain ⟨fd, F⟩ := c.def_ 76 rfl
  exact mn_of F (He.cls_ok (c.fact 84 (f := .cls "Held") rfl)) (He.meth_ok (c.fact 97 (f := .meth "Held" "holders") rfl)) (FunD.bindsN F fun _ _ _ _ _ _ us hl => match us, hl with | [_, _], _ => rfl)
theorem mn_Held_places_vote (c : He.SaysD fa fn K) : Mn K (He.ga K "Held") "places_vote" "Held.places_vote" s_Held_places_vote ["self"] := by
  obtain ⟨fd, F⟩ := c.def_ 77 rfl
  exact mn_of F (He.cls_ok (c.fact 84 (f := .cls "Held") rfl)) (He.meth_ok (c.fact 98 (f := .meth "Held" "places_vote") rfl)) (FunD.bindsN F fun _ _ _ _ _ _ us hl => match us, hl with | [_], _ => rfl)
theorem mn_Lists_rank (c : He.SaysD fa fn K) : Mn K (He.ga K "Held") "rank" "Lists.rank" s_Lists_rank ["self", "person", "place"] := by
  obtain ⟨fd, F⟩ := c.def_ 78 rfl
  exact mn_of F (He.cls_ok (c.fact 84 (f := .cls "Held") rfl)) (He.meth_ok (c.fact 99 (f := .meth "Held" "rank") rfl)) (FunD.bindsN F fun _ _ _ _ _ _ us hl => match us, hl with | [_, _, _], _ => rfl)
theorem mn_Held_is_pair (c : He.SaysD fa fn K) : Mn K (He.ga K "Held") "is_pair" "Held.is_pair" s_Held_is_pair ["self", "person", "place"] := by
  obtain ⟨fd, F⟩ := c.def_ 79 rfl
  exact mn_of F (He.cls_ok (c.fact 84 (f := .cls "Held") rfl)) (He.meth_ok (c.fact 100 (f := .meth "Held" "is_pair") rfl)) (FunD.bindsN F fun _ _ _ _ _ _ us hl => match us, hl with | [_, _, _], _ => rfl)

theorem inL (X : K.In h) (G : h.Ns mainGlobals mg) (c : He.SaysD fa fn K) (e : exB K = true) : InL K mg (He.ga K "Lists") (He.ma K (He.ga K "Lists") "__init__") s_Lists__init := by
  obtain ⟨fd, F⟩ := c.def_ 81 rfl
  obtain ⟨_, e2⟩ := Bool.and_eq_true_iff.mp e
  obtain ⟨e3, e4⟩ := Bool.and_eq_true_iff.mp e2
  exact ⟨He.glo_ok X G (c.fact 15 (f := .glo "Lists") rfl), .type "type", fd, cread e3, cval e4, F.kp, fun_of F, FunD.bindsN F fun _ _ _ _ _ _ us hl => match us, hl with | [_, _, _], _ => rfl⟩
theorem inH (X : K.In h) (G : h.Ns mainGlobals mg) (c : He.SaysD fa fn K) : InH K mg (He.ga K "Held") (He.ma K (He.ga K "Held") "__init__") s_Held__init := by
  obtain ⟨fd, F⟩ := c.def_ 80 rfl
  exact ⟨He.glo_ok X G (c.fact 14 (f := .glo "Held") rfl), fd, He.mkr_ok (c.fact 87 (f := .mkr "Held") rfl), fun_of F, FunD.bindsN F fun _ _ _ _ _ _ us hl => match us, hl with | [_, _, _], _ => rfl⟩
theorem heldC (X : K.In h) (G : h.Ns mainGlobals mg) (c : He.SaysD fa fn K) : HeldC K (He.ga K "Held") mg := ⟨He.cls_ok (c.fact 84 (f := .cls "Held") rfl), He.noat_ok (c.fact 85 (f := .noat "Held" "folk") rfl), He.noat_ok (c.fact 86 (f := .noat "Held" "spots") rfl), He.glo_ok X G (c.fact 14 (f := .glo "Held") rfl)⟩

theorem all_law {P : Program} {w : World} {base : Heap} (X : K.In h) (G : h.Ns mainGlobals mg) (c : He.SaysD fa fn K) (e : exB K = true) {f : Addr} {fd : FuncData} (Fl : C8.Fun K "law" "law" s_law f fd) : P_law P w K mg base f fd := by
  have T : Bi mg := ⟨He.free_ok X G (c.fact 0 (f := .free "len") rfl), He.free_ok X G (c.fact 1 (f := .free "isinstance") rfl), He.free_ok X G (c.fact 2 (f := .free "list") rfl), He.free_ok X G (c.fact 3 (f := .free "tuple") rfl), He.free_ok X G (c.fact 4 (f := .free "dict") rfl), He.free_ok X G (c.fact 5 (f := .free "str") rfl), He.free_ok X G (c.fact 6 (f := .free "int") rfl), He.free_ok X G (c.fact 7 (f := .free "bool") rfl), He.free_ok X G (c.fact 8 (f := .free "enumerate") rfl), He.free_ok X G (c.fact 9 (f := .free "range") rfl), He.free_ok X G (c.fact 10 (f := .free "max") rfl), He.free_ok X G (c.fact 11 (f := .free "min") rfl), He.free_ok X G (c.fact 12 (f := .free "sum") rfl), He.free_ok X G (c.fact 13 (f := .free "all") rfl)⟩
  have hC := heldC X G c
  have c_row_byG := ok_row_by (P := P) (w := w) (mg := mg) (base := base) (T := T) (Dd := dn_row_by X G c) (u := (tGrps K))
  have c_row_byI := ok_row_by (P := P) (w := w) (mg := mg) (base := base) (T := T) (Dd := dn_row_by X G c) (u := tInt)
  have m_people := ok_people (P := P) (w := w) (mg := mg) (base := base) (c := hC) (Dd := mn_Lists_people c)
  have m_places := ok_places (P := P) (w := w) (mg := mg) (base := base) (c := hC) (Dd := mn_Lists_places c)
  have c_place_in := ok_place_in (P := P) (w := w) (mg := mg) (base := base) (T := T) (Dd := dn_place_in X G c)
  have m_is_person := ok_is_person (P := P) (w := w) (mg := mg) (base := base) (T := T) (c := hC) (Dd := mn_Lists_is_person c) (c_row_by := c_row_byG)
  have m_is_place := ok_is_place (P := P) (w := w) (mg := mg) (base := base) (T := T) (c := hC) (Dd := mn_Lists_is_place c) (c_row_by := c_row_byI)
  have m_person_row := ok_person_row (P := P) (w := w) (mg := mg) (base := base) (T := T) (c := hC) (Dd := mn_Lists_person_row c) (c_row_by := c_row_byG)
  have m_place_row := ok_place_row (P := P) (w := w) (mg := mg) (base := base) (T := T) (c := hC) (Dd := mn_Lists_place_row c) (c_row_by := c_row_byI)
  have m_groups_of := ok_groups_of (P := P) (w := w) (mg := mg) (base := base) (T := T) (Dd := mn_Lists_groups_of c) (m_person_row := m_person_row)
  have m_holders := ok_holders (P := P) (w := w) (mg := mg) (base := base) (T := T) (Dd := mn_Held_holders c) (m_place_row := m_place_row)
  have m_places_vote := ok_places_vote (P := P) (w := w) (mg := mg) (base := base) (Dd := mn_Held_places_vote c)
  have m_rank := ok_rank (P := P) (w := w) (mg := mg) (base := base) (T := T) (Dd := mn_Lists_rank c) (m_groups_of := m_groups_of) (m_place_row := m_place_row) (c_place_in := c_place_in)
  have m_is_pair := ok_is_pair (P := P) (w := w) (mg := mg) (base := base) (T := T) (Dd := mn_Held_is_pair c) (m_is_person := m_is_person) (m_is_place := m_is_place) (m_rank := m_rank)
  have c_need_held := ok_need_held (P := P) (w := w) (mg := mg) (base := base) (T := T) (Dd := dn_need_held X G c) (m_places_vote := m_places_vote)
  have c_first_group := ok_first_group (P := P) (w := w) (mg := mg) (base := base) (T := T) (Dd := dn_first_group X G c) (m_groups_of := m_groups_of)
  have c_firsts_wishes := ok_firsts_wishes (P := P) (w := w) (mg := mg) (base := base) (T := T) (Dd := dn_firsts_wishes X G c) (m_people := m_people) (c_first_group := c_first_group)
  have c_in_order := ok_in_order (P := P) (w := w) (mg := mg) (base := base) (T := T) (Dd := dn_in_order X G c) (m_people := m_people)
  have c_has_room := ok_has_room (P := P) (w := w) (mg := mg) (base := base) (T := T) (Dd := dn_has_room X G c)
  have c_reach := ok_reach (P := P) (w := w) (mg := mg) (base := base) (T := T) (Dd := dn_reach X G c) (c_has_room := c_has_room)
  have c_led := ok_led (P := P) (w := w) (mg := mg) (base := base) (T := T) (Dd := dn_led X G c)
  have c_rooms_of := ok_rooms_of (P := P) (w := w) (mg := mg) (base := base) (T := T) (Dd := dn_rooms_of X G c) (m_places := m_places) (m_holders := m_holders)
  have c_grown := ok_grown (P := P) (w := w) (mg := mg) (base := base) (T := T) (Dd := dn_grown X G c) (c_reach := c_reach) (c_led := c_led)
  have c_greatest_firsts := ok_greatest_firsts (P := P) (w := w) (mg := mg) (base := base) (T := T) (Dd := dn_greatest_firsts X G c) (c_need_held := c_need_held) (c_in_order := c_in_order) (c_grown := c_grown) (c_firsts_wishes := c_firsts_wishes) (c_rooms_of := c_rooms_of) (m_people := m_people)
  have c_firsts_without := ok_firsts_without (P := P) (w := w) (mg := mg) (base := base) (T := T) (Dd := dn_firsts_without X G c) (c_rooms_of := c_rooms_of) (m_people := m_people) (c_reach := c_reach) (c_firsts_wishes := c_firsts_wishes) (c_led := c_led) (c_in_order := c_in_order)
  have c_sorts_paper := ok_sorts_paper (P := P) (w := w) (mg := mg) (base := base) (T := T) (Dd := dn_sorts_paper X G c) (c_greatest_firsts := c_greatest_firsts) (m_people := m_people) (m_places := m_places) (c_firsts_without := c_firsts_without) (c_first_group := c_first_group)
  have c_sorts := ok_sorts (P := P) (w := w) (mg := mg) (base := base) (T := T) (Dd := dn_sorts X G c) (c_sorts_paper := c_sorts_paper) (m_people := m_people) (m_places := m_places) (c_first_group := c_first_group)
  have c_key_faults := ok_key_faults (P := P) (w := w) (mg := mg) (base := base) (T := T) (Dd := dn_key_faults X G c) (m_is_person := m_is_person) (m_is_pair := m_is_pair)
  have c_faults := ok_faults (P := P) (w := w) (mg := mg) (base := base) (T := T) (Dd := dn_faults X G c) (c_key_faults := c_key_faults) (m_places := m_places) (m_holders := m_holders)
  have c_is_dealing := ok_is_dealing (P := P) (w := w) (mg := mg) (base := base) (T := T) (Dd := dn_is_dealing X G c) (c_faults := c_faults)
  have c_is_told_of := ok_is_told_of (P := P) (w := w) (mg := mg) (base := base) (T := T) (hW := (He.glo_ok X G (c.fact 16 (f := .glo "WORDS") rfl))) (hWT := (words_ok e)) (Dd := dn_is_told_of X G c)
  have c_are_sorts := ok_are_sorts (P := P) (w := w) (mg := mg) (base := base) (T := T) (Dd := dn_are_sorts X G c) (c_is_told_of := c_is_told_of) (m_people := m_people) (m_places := m_places)
  have c_first_pairs := ok_first_pairs (P := P) (w := w) (mg := mg) (base := base) (T := T) (Dd := dn_first_pairs X G c) (m_people := m_people) (c_first_group := c_first_group)
  have c_holders_with := ok_holders_with (P := P) (w := w) (mg := mg) (base := base) (T := T) (Dd := dn_holders_with X G c) (m_places := m_places) (m_holders := m_holders)
  have c_paired_with_group := ok_paired_with_group (P := P) (w := w) (mg := mg) (base := base) (T := T) (Dd := dn_paired_with_group X G c) (m_people := m_people) (c_first_group := c_first_group)
  have c_is_firsts := ok_is_firsts (P := P) (w := w) (mg := mg) (base := base) (T := T) (Dd := dn_is_firsts X G c) (c_is_dealing := c_is_dealing) (c_first_group := c_first_group)
  have c_sorts_fit := ok_sorts_fit (P := P) (w := w) (mg := mg) (base := base) (T := T) (Dd := dn_sorts_fit X G c) (c_first_pairs := c_first_pairs) (m_people := m_people) (m_places := m_places) (c_first_group := c_first_group)
  have c_are_loose_papers := ok_are_loose_papers (P := P) (w := w) (mg := mg) (base := base) (T := T) (Dd := dn_are_loose_papers X G c) (c_is_firsts := c_is_firsts)
  have c_sorts_hold := ok_sorts_hold (P := P) (w := w) (mg := mg) (base := base) (T := T) (Dd := dn_sorts_hold X G c) (c_need_held := c_need_held) (c_are_sorts := c_are_sorts) (c_paired_with_group := c_paired_with_group) (c_sorts_fit := c_sorts_fit) (c_holders_with := c_holders_with) (c_is_firsts := c_is_firsts) (c_are_loose_papers := c_are_loose_papers) (m_holders := m_holders)
  have c_is_whole := ok_is_whole (P := P) (w := w) (mg := mg) (base := base) (T := T) (Dd := dn_is_whole X G c)
  have c_is_within := ok_is_within (P := P) (w := w) (mg := mg) (base := base) (T := T) (Dd := dn_is_within X G c) (c_is_whole := c_is_whole)
  have c_are_signs := ok_are_signs (P := P) (w := w) (mg := mg) (base := base) (T := T) (Dd := dn_are_signs X G c)
  have c_is_name := ok_is_name (P := P) (w := w) (mg := mg) (base := base) (T := T) (Dd := dn_is_name X G c) (c_are_signs := c_are_signs)
  have c_is_group := ok_is_group (P := P) (w := w) (mg := mg) (base := base) (T := T) (Dd := dn_is_group X G c) (c_is_name := c_is_name)
  have c_names_in := ok_names_in (P := P) (w := w) (mg := mg) (base := base) (T := T) (Dd := dn_names_in X G c)
  have c_groups_shaped := ok_groups_shaped (P := P) (w := w) (mg := mg) (base := base) (T := T) (Dd := dn_groups_shaped X G c)
  have c_many_fault := ok_many_fault (P := P) (w := w) (mg := mg) (base := base) (T := T) (Dd := dn_many_fault X G c) (c_is_within := c_is_within)
  have c_many_shaped := ok_many_shaped (P := P) (w := w) (mg := mg) (base := base) (Dd := dn_many_shaped X G c)
  have c_groups_fault := ok_groups_fault (P := P) (w := w) (mg := mg) (base := base) (T := T) (Dd := dn_groups_fault X G c) (c_is_group := c_is_group) (c_names_in := c_names_in)
  have c_need_known := ok_need_known (P := P) (w := w) (mg := mg) (base := base) (T := T) (Dd := dn_need_known X G c) (c_names_in := c_names_in)
  have c_head_faultG := ok_head_fault (P := P) (w := w) (mg := mg) (base := base) (t := (tGrps K)) (T := T) (Dd := dn_head_fault X G c) (c_is_name := c_is_name)
  have c_head_faultI := ok_head_fault (P := P) (w := w) (mg := mg) (base := base) (t := tInt) (T := T) (Dd := dn_head_fault X G c) (c_is_name := c_is_name)
  have c_checkedG := ok_checked (P := P) (w := w) (mg := mg) (base := base) (good := GOk) (hkf := (show (4 : Nat) ≤ 4 by decide)) (hks := (show (1 : Nat) ≤ 4 by decide)) (T := T) (Dd := dn_checked X G c) (c_head_fault := c_head_faultG) (c_fault := c_groups_fault) (c_shaped := c_groups_shaped)
  have c_checkedI := ok_checked (P := P) (w := w) (mg := mg) (base := base) (good := (fun n : Int => 1 ≤ n ∧ n ≤ 4)) (hkf := (show (3 : Nat) ≤ 4 by decide)) (hks := (show (1 : Nat) ≤ 4 by decide)) (T := T) (Dd := dn_checked X G c) (c_head_fault := c_head_faultI) (c_fault := c_many_fault) (c_shaped := c_many_shaped)
  have m_checked_places := ok_checked_places (P := P) (w := w) (mg := mg) (base := base) (Dd := mn_Held_checked_places c) (c_checked0 := c_checkedI)
  have m_need_known_people := ok_need_known_people (P := P) (w := w) (mg := mg) (base := base) (Dd := mn_Held_need_known_people c)
  have mk_Held := ok_Held (P := P) (w := w) (mg := mg) (base := base) (T := T) (iL := inL X G c e) (iH := inH X G c) fun fd Fn => ok_Lists_init (P := P) (w := w) (mg := mg) (base := base) (T := T) (hC := hC) (Fn := Fn) (c_checked0 := c_checkedG) (m_checked_places := m_checked_places) (m_places := m_places) (m_need_known_people := m_need_known_people) (c_need_known := c_need_known)
  have c__law_take := ok_law_take (P := P) (w := w) (mg := mg) (base := base) (T := T) (Dd := dn_law_take X G c)
  have c__law_cell := ok_law_cell (P := P) (w := w) (mg := mg) (base := base) (T := T) (Dd := dn_law_cell X G c)
  have c__law_box := ok_law_box (P := P) (w := w) (mg := mg) (base := base) (T := T) (Dd := dn_law_box X G c)
  have c__law_names := ok_law_names (P := P) (w := w) (mg := mg) (base := base) (T := T) (Dd := dn_law_names X G c) (c__law_take := c__law_take)
  have c__law_list := ok_law_list (P := P) (w := w) (mg := mg) (base := base) (T := T) (Dd := dn_law_list X G c) (c__law_take := c__law_take)
  have c__law_world := ok_law_world (P := P) (w := w) (mg := mg) (base := base) (T := T) (Dd := dn_law_world X G c) (c__law_take := c__law_take) (c__law_names := c__law_names) (c__law_list := c__law_list)
  have c__law_lists := ok_law_lists (P := P) (w := w) (mg := mg) (base := base) (Dd := dn_law_lists X G c) (mk_Held := mk_Held)
  have c__law_ranks := ok_law_ranks (P := P) (w := w) (mg := mg) (base := base) (T := T) (Dd := dn_law_ranks X G c)
  have c__law_chosen := ok_law_chosen (P := P) (w := w) (mg := mg) (base := base) (T := T) (Dd := dn_law_chosen X G c) (c__law_ranks := c__law_ranks)
  have c__law_holders := ok_law_holders (P := P) (w := w) (mg := mg) (base := base) (T := T) (Dd := dn_law_holders X G c)
  have c__law_is_dealing := ok_law_is_dealing (P := P) (w := w) (mg := mg) (base := base) (T := T) (Dd := dn_law_is_dealing X G c) (c__law_holders := c__law_holders) (c__law_chosen := c__law_chosen)
  have c__law_has_room := ok_law_has_room (P := P) (w := w) (mg := mg) (base := base) (T := T) (Dd := dn_law_has_room X G c) (c__law_holders := c__law_holders)
  have c__law_firsts := ok_law_firsts (P := P) (w := w) (mg := mg) (base := base) (T := T) (Dd := dn_law_firsts X G c)
  have c__law_is_firsts := ok_law_is_firsts (P := P) (w := w) (mg := mg) (base := base) (T := T) (Dd := dn_law_is_firsts X G c) (c__law_is_dealing := c__law_is_dealing) (c__law_firsts := c__law_firsts)
  have c__law_told_of := ok_law_told_of (P := P) (w := w) (mg := mg) (base := base) (T := T) (Dd := dn_law_told_of X G c)
  have c__law_dealings := ok_law_dealings (P := P) (w := w) (mg := mg) (base := base) (T := T) (Dd := dn_law_dealings X G c) (c__law_holders := c__law_holders) (c__law_chosen := c__law_chosen)
  have c__law_fit := ok_law_fit (P := P) (w := w) (mg := mg) (base := base) (T := T) (Dd := dn_law_fit X G c) (c__law_firsts := c__law_firsts)
  have c__law_papers_right := ok_law_papers_right (P := P) (w := w) (mg := mg) (base := base) (T := T) (Dd := dn_law_papers_right X G c) (c__law_is_firsts := c__law_is_firsts)
  have c__law_sorts_right := ok_law_sorts_right (P := P) (w := w) (mg := mg) (base := base) (T := T) (Dd := dn_law_sorts_right X G c) (c__law_told_of := c__law_told_of) (c__law_fit := c__law_fit) (c__law_is_firsts := c__law_is_firsts) (c__law_papers_right := c__law_papers_right) (c__law_has_room := c__law_has_room)
  have c__law_many := ok_law_many (P := P) (w := w) (mg := mg) (base := base) (T := T) (Dd := dn_law_many X G c) (c__law_firsts := c__law_firsts)
  have c__law_best := ok_law_best (P := P) (w := w) (mg := mg) (base := base) (T := T) (Dd := dn_law_best X G c)
  have c__law_paper := ok_law_paper (P := P) (w := w) (mg := mg) (base := base) (T := T) (Dd := dn_law_paper X G c) (c__law_many := c__law_many) (c__law_best := c__law_best) (c__law_has_room := c__law_has_room)
  have c__law_tellings := ok_law_tellings (P := P) (w := w) (mg := mg) (base := base) (T := T) (Dd := dn_law_tellings X G c)
  have c__law_asked := ok_law_asked (P := P) (w := w) (mg := mg) (base := base) (T := T) (Dd := dn_law_asked X G c) (c__law_paper := c__law_paper) (c_sorts_hold := c_sorts_hold) (c__law_sorts_right := c__law_sorts_right)
  have c__law_all_right := ok_law_all_right (P := P) (w := w) (mg := mg) (base := base) (SL := law_SL) (T := T) (Dd := dn_law_all_right X G c) (c__law_lists := c__law_lists) (c__law_dealings := c__law_dealings) (c__law_is_firsts := c__law_is_firsts) (c__law_tellings := c__law_tellings) (c__law_asked := c__law_asked) (c_sorts := c_sorts)
  have c__law_one_otherwise := ok_law_one_otherwise (P := P) (w := w) (mg := mg) (base := base) (T := T) (Dd := dn_law_one_otherwise X G c) (c__law_take := c__law_take)
  have c_law := ok_law (P := P) (w := w) (mg := mg) (base := base) (SL := law_SL) (AL := law_AL) (T := T) (Fl := Fl) (c__law_take := c__law_take) (c__law_cell := c__law_cell) (c__law_box := c__law_box) (c__law_world := c__law_world) (c__law_lists := c__law_lists) (c__law_dealings := c__law_dealings) (c__law_is_firsts := c__law_is_firsts) (c__law_asked := c__law_asked) (c_sorts := c_sorts) (c__law_one_otherwise := c__law_one_otherwise) (c__law_all_right := c__law_all_right)
  exact c_law
end
theorem facts {P : Program} {w : World} {K : PySem.W.Frag} {h : Heap} {mg : Str → Option Value} {f : Addr} (X : K.In h) (G : h.Ns mainGlobals mg) (hfa : mg ("law" : Str) = some (.ref f)) (c : He.SaysD fa fn K) (e : exB K = true) :
    ∃ fd : FuncData, (∀ (s : Shared) (v : Value), BindsTo s fd ⟨[v], []⟩ [("_law_script", v)]) ∧ ∀ base : Heap, FnOk P w K mg base C8.CX0 14 f fd ["_law_script"] (SpF (aCons (tLst K tInt) aNil) (fun _ => True) tBool fun _ => true) := by
  obtain ⟨fd, F⟩ := c.def_ 66 rfl
  have e2 := hfa.symm.trans (He.glo_ok X G (c.fact 83 (f := .glo "law") rfl))
  cases e2
  have b := FunD.bindsA (ps := ["_law_script"]) F fun _ _ _ _ _ _ us hl => match us, hl with | [_], _ => rfl
  exact ⟨fd, fun s v => b s [v] rfl, fun base => all_law X G c e (fun_of F)⟩
theorem law_sp {K : PySem.W.Frag} {H : Hp} {a : Addr} {ns : List Int} (hl : ns.length ≤ 63) (hS : SqL K H a (ns.map V.int)) : SpF (aCons (tLst K tInt) aNil) (fun _ => True) tBool (fun _ => true) [.ref a] H (fun v _ => v = .bl true) fun _ _ _ => False :=
  ⟨H, (ns, ()), Le.refl H, ⟨_, _, rfl, ⟨a, _, rfl, hS, Fa.of_atoms _, by rw [List.length_map]; exact Nat.le_trans hl (by decide)⟩, rfl⟩, trivial, fun v y G' H' _ hy hr => by
    have hy : y = true := hy
    subst hy
    exact hr⟩
end G3
open PySem PySem.W PySem.Calls PyProof.Rows
theorem PySem.Challenge.cw_mostlike_k47_whole_each_telling_of_sorts_holds : PySem.Challenge.rw_mostlike_k47_whole_each_telling_of_sorts.Holds := by
  w_on; o_law
  refine HandSHeadRun.head_any (r := G3.RR) (q := G3.qv) (H := G3.hk) (ob := G3.ob) (M := 8000) (loose := G3.names) (d := HandSHeadRun.topDef G3.RR.prog 84) (kwd := []) G3.ob_eq
    (by kernel_rfl) (fun s => by kernel_rfl) G3.run (by kernel_rfl) (by kernel_rfl) (by kernel_rfl) (by rfl) (by first | assumption | decide +kernel) (by decide +kernel) ⟨rfl, rfl, rfl, rfl, rfl, by decide +kernel⟩ ?hw ?hc
  case hw => w_witness2
  case hc =>
    refine L2.walk_ofE (l := PySem.Challenge.rw_mostlike_k47_whole_each_telling_of_sorts) (n := 63) (k := 14) (x := "_law_script") (CX := C8.CX0) rfl (by decide) (by kernel_rfl) ⟨rfl, by decide, by decide⟩ ?F (fun _ _ _ _ z => z)
    intro w mg fa h Y G hmg0
    obtain ⟨K, KX, c, e⟩ := Y
    have hmg : mg ("law" : PySem.Str) = some (.ref fa) := by
      have e : (HandSHeadRun.topDef G3.RR.prog 84).name = ("law" : PySem.Str) := by kernel_rfl
      rw [← e]
      exact hmg0
    obtain ⟨fd, hb, hF⟩ := G3.facts (P := (PySem.Challenge.rw_mostlike_k47_whole_each_telling_of_sorts).prog) (w := w) KX G hmg c e
    exact ⟨K, fd, _, KX, hb, fun H a ns hl _ hS => G3.law_sp hl hS, fun base _ _ => hF base⟩
