import PyProof.Rows.All
import Wide.All
import OpenK.AllK
import Wide.FinOn
import HandS.ForMost
import HandS.ForExc
import HandS.Defaults
import HandS.HeadHook1
import HandS.Wide
import HandS.Lambda
import HandS.TupAny
import HandS.StrMore
import HandS.Style
import HandS.Property
import HandS.Star
import HandS.ExcInit
import HandS.Small
import HandS.ExcCtx
import HandS.DictComp
import HandS.Zip
import HandS.Rev
import HandS.IsInst
import HandS.WordsDict
import HandS.ExcOwn
import HandS.Dict
import HandS.Hot
import HandS.HotCalls
import HandS.ExcField
import KE.KExcIs
import KE.KStateDown
import HandS.Base
import HandS.Call
import HandS.Ends
import HandS.More
import HandS.Words
import HandS.WordsExc
import HandS.Head0
import HandS.Head1
import HandS.Head2
import HandS.HeadEnd
import HandS.HeadHook2
import HandS.HeadHook3
import HandS.HeadHook4
import HandS.HeadNt
import HandS.HeadWalk
import HandS.ExcInitHot
import HandS.EndTab
import HandS.Iter
import PyProof.EnumMake
import HandS.Text
import PyProof.Draws
import PyProof.StrWalks
import HandS.SetFor
import PySem.Challenge.RW_notbehind_k75_anew_plays_each_stretch_al
set_option Elab.async false
set_option linter.all false
set_option maxRecDepth 100000
set_option maxHeartbeats 4000000
/-! D layer, part A: data values, how they lie in a tracked heap, the judgements over data. -/
namespace DL
open PySem PySem.Spec PyProof.Rows L2
abbrev St := L2.St

/-- data; cel a: an object that may change, told by its address; ro: a list that is only read -/
inductive Dt where
  | non | bl (b : Bool) | int (i : Int) | str (x : Str)
  | tup (xs : List Dt) | lst (xs : List Dt) | ro (xs : List Dt)
  | dic (kvs : List (Key × Dt))
  | obj (c : Str) (fs : List (Str × Dt))
  | cel (a : Addr)

mutual
inductive Rep (K : PySem.W.Frag) (H : Hp) : V → Dt → Prop
  | non : Rep K H .non .non
  | bl {b : Bool} : Rep K H (.bl b) (.bl b)
  | int {i : Int} : Rep K H (.int i) (.int i)
  | str {x : Str} : Rep K H (.str x) (.str x)
  | tup {a : Addr} {vs : List V} {xs : List Dt} : SqT K H a vs → RepL K H vs xs → Rep K H (.ref a) (.tup xs)
  | lst {a : Addr} {vs : List V} {xs : List Dt} : H a = some (.lst vs) → RepL K H vs xs → Rep K H (.ref a) (.lst xs)
  | ro {a : Addr} {vs : List V} {xs : List Dt} : SqL K H a vs → RepL K H vs xs → Rep K H (.ref a) (.ro xs)
  | dic {a : Addr} {ks : List (Key × V)} {kvs : List (Key × Dt)} : H a = some (.dK ks) → RepK K H ks kvs → Rep K H (.ref a) (.dic kvs)
  | obj {a dx : Addr} {c : Str} {gs : List (Str × V)} {fs : List (Str × Dt)} : H a = some (.ins (He.ga K c) dx gs) → RepF K H gs fs → Rep K H (.ref a) (.obj c fs)
  | cel {a : Addr} : Rep K H (.ref a) (.cel a)
inductive RepL (K : PySem.W.Frag) (H : Hp) : List V → List Dt → Prop
  | nil : RepL K H [] []
  | cons {v : V} {d : Dt} {vs : List V} {ds : List Dt} : Rep K H v d → RepL K H vs ds → RepL K H (v :: vs) (d :: ds)
inductive RepK (K : PySem.W.Frag) (H : Hp) : List (Key × V) → List (Key × Dt) → Prop
  | nil : RepK K H [] []
  | cons {k : Key} {v : V} {d : Dt} {vs : List (Key × V)} {ds : List (Key × Dt)} : Rep K H v d → RepK K H vs ds → RepK K H ((k, v) :: vs) ((k, d) :: ds)
inductive RepF (K : PySem.W.Frag) (H : Hp) : List (Str × V) → List (Str × Dt) → Prop
  | nil : RepF K H [] []
  | cons {k : Str} {v : V} {d : Dt} {vs : List (Str × V)} {ds : List (Str × Dt)} : Rep K H v d → RepF K H vs ds → RepF K H ((k, v) :: vs) ((k, d) :: ds)
end
section
variable {K : PySem.W.Frag} {H H' : Hp}
theorem Rd.up {a : Addr} {u : HO} (e : Same H H') (h : Rd H a u) : Rd H' a u := by
  rcases h with h | ⟨o, h⟩
  · exact .inl (e _ _ h)
  · exact .inr ⟨o, e _ _ h⟩
theorem SqT.up {a : Addr} {xs : List V} (e : Same H H') (h : SqT K H a xs) : SqT K H' a xs := h.elim (fun h => .inl (Rd.up e h)) .inr
theorem SqL.up {a : Addr} {xs : List V} (e : Same H H') (h : SqL K H a xs) : SqL K H' a xs := h.elim (fun h => .inl (Rd.up e h)) .inr
mutual
theorem Rep.up (e : Same H H') : ∀ {v : V} {d : Dt}, Rep K H v d → Rep K H' v d
  | _, _, .non => .non
  | _, _, .bl => .bl
  | _, _, .int => .int
  | _, _, .str => .str
  | _, _, .tup h l => .tup (SqT.up e h) (RepL.up e l)
  | _, _, .lst h l => .lst (e _ _ h) (RepL.up e l)
  | _, _, .ro h l => .ro (SqL.up e h) (RepL.up e l)
  | _, _, .dic h l => .dic (e _ _ h) (RepK.up e l)
  | _, _, .obj h l => .obj (e _ _ h) (RepF.up e l)
  | _, _, .cel => .cel
theorem RepL.up (e : Same H H') : ∀ {v : List V} {d : List Dt}, RepL K H v d → RepL K H' v d
  | _, _, .nil => .nil
  | _, _, .cons h l => .cons (Rep.up e h) (RepL.up e l)
theorem RepK.up (e : Same H H') : ∀ {v : List (Key × V)} {d : List (Key × Dt)}, RepK K H v d → RepK K H' v d
  | _, _, .nil => .nil
  | _, _, .cons h l => .cons (Rep.up e h) (RepK.up e l)
theorem RepF.up (e : Same H H') : ∀ {v : List (Str × V)} {d : List (Str × Dt)}, RepF K H v d → RepF K H' v d
  | _, _, .nil => .nil
  | _, _, .cons h l => .cons (Rep.up e h) (RepF.up e l)
end
theorem RepL.length : ∀ {vs : List V} {ds : List Dt}, RepL K H vs ds → vs.length = ds.length
  | _, _, .nil => rfl
  | _, _, .cons _ l => congrArg Nat.succ (RepL.length l)
theorem RepL.get : ∀ {vs : List V} {ds : List Dt} {i : Nat} {d : Dt}, RepL K H vs ds → ds[i]? = some d → ∃ v, vs[i]? = some v ∧ Rep K H v d
  | _, _, _, _, .nil, e => by simp at e
  | _, _, 0, _, .cons r _, e => by simp at e; subst e; exact ⟨_, rfl, r⟩
  | _, _, i + 1, d, .cons _ l, e => by
    obtain ⟨v, h1, h2⟩ := RepL.get (i := i) (d := d) l (by simpa using e)
    exact ⟨v, by simpa using h1, h2⟩
theorem RepL.getV : ∀ {vs : List V} {ds : List Dt} {i : Nat} {v : V}, RepL K H vs ds → vs[i]? = some v → ∃ d, ds[i]? = some d ∧ Rep K H v d
  | _, _, _, _, .nil, e => by simp at e
  | _, _, 0, _, .cons r _, e => by simp at e; subst e; exact ⟨_, rfl, r⟩
  | _, _, i + 1, v, .cons _ l, e => by
    obtain ⟨d, h1, h2⟩ := RepL.getV (i := i) (v := v) l (by simpa using e)
    exact ⟨d, by simpa using h1, h2⟩
theorem RepL.append : ∀ {vs ws : List V} {ds es : List Dt}, RepL K H vs ds → RepL K H ws es → RepL K H (vs ++ ws) (ds ++ es)
  | _, _, _, _, .nil, s => s
  | _, _, _, _, .cons r t, s => .cons r (RepL.append t s)
theorem RepL.take : ∀ {vs : List V} {ds : List Dt} (n : Nat), RepL K H vs ds → RepL K H (vs.take n) (ds.take n)
  | _, _, 0, _ => .nil
  | _, _, _ + 1, .nil => .nil
  | _, _, n + 1, .cons r t => .cons r (RepL.take n t)
theorem RepL.drop : ∀ {vs : List V} {ds : List Dt} (n : Nat), RepL K H vs ds → RepL K H (vs.drop n) (ds.drop n)
  | _, _, 0, r => r
  | _, _, _ + 1, .nil => .nil
  | _, _, n + 1, .cons _ t => RepL.drop n t
theorem RepL.set {x : V} {d : Dt} (r : Rep K H x d) : ∀ {vs : List V} {ds : List Dt} (i : Nat), RepL K H vs ds → RepL K H (vs.set i x) (ds.set i d)
  | _, _, _, .nil => .nil
  | _, _, 0, .cons _ t => .cons r t
  | _, _, i + 1, .cons q t => .cons q (RepL.set r i t)
theorem RepL.reverse {vs : List V} {ds : List Dt} (h : RepL K H vs ds) : RepL K H vs.reverse ds.reverse := by
  induction vs generalizing ds with
  | nil => cases h; exact .nil
  | cons v vs ih =>
    cases h with
    | cons r t =>
      rw [List.reverse_cons, List.reverse_cons]
      exact (ih t).append (.cons r .nil)
end

/-! ### what may change -/
abbrev Mm := Addr → Option Dt
def mput (M : Mm) (a : Addr) (d : Dt) : Mm := fun b => if b = a then some d else M b
def mdel (M : Mm) (a : Addr) : Mm := fun b => if b = a then none else M b
@[simp] theorem mput_same {M : Mm} {a : Addr} {d : Dt} : mput M a d a = some d := if_pos rfl
theorem mput_ne {M : Mm} {a b : Addr} {d : Dt} (h : b ≠ a) : mput M a d b = M b := if_neg h
@[simp] theorem mput_mput {M : Mm} {a : Addr} {d e : Dt} : mput (mput M a d) a e = mput M a e := by
  funext b; unfold mput; split <;> rfl
theorem mdel_mput {M : Mm} {a : Addr} {d : Dt} (h : M a = none) : mdel (mput M a d) a = M := by
  funext b; unfold mdel mput
  split
  · rename_i e; rw [e, h]
  · rfl
theorem mdel_ne {M : Mm} {a b : Addr} (h : b ≠ a) : mdel M a b = M b := if_neg h

inductive MRep (K : PySem.W.Frag) (H Hb : Hp) (a : Addr) : Dt → Prop
  | lst {vs : List V} {xs : List Dt} : H a = some (.lst vs) → RepL K Hb vs xs → MRep K H Hb a (.lst xs)
  | dic {ks : List (Key × V)} {kvs : List (Key × Dt)} : H a = some (.dK ks) → RepK K Hb ks kvs → MRep K H Hb a (.dic kvs)
  | obj {dx : Addr} {c : Str} {gs : List (Str × V)} {fs : List (Str × Dt)} : H a = some (.ins (He.ga K c) dx gs) → RepF K Hb gs fs → MRep K H Hb a (.obj c fs)
theorem MRep.there {K : PySem.W.Frag} {H Hb : Hp} {a : Addr} {d : Dt} (h : MRep K H Hb a d) : ∃ o, H a = some o := by
  cases h with
  | lst h _ => exact ⟨_, h⟩
  | dic h _ => exact ⟨_, h⟩
  | obj h _ => exact ⟨_, h⟩
theorem MRep.up {K : PySem.W.Frag} {H H' Hb Hb' : Hp} {a : Addr} {d : Dt} (h : MRep K H Hb a d) (e : ∀ o, H a = some o → H' a = some o) (s : Same Hb Hb') : MRep K H' Hb' a d := by
  cases h with
  | lst h l => exact .lst (e _ h) (l.up s)
  | dic h l => exact .dic (e _ h) (l.up s)
  | obj h l => exact .obj (e _ h) (l.up s)

/-- the objects of somebody else, the tables of code objects (for lambdas) -/
structure Fo where
  hp : Hp
  tb : List (Addr × Str)
def Fo.put (F : Fo) (D : Addr) (o : HO) : Fo := ⟨upd F.hp D o, F.tb⟩
/-- neither a table nor an object of the outside -/
def Cm (u : HO) : Prop := (∀ ps, u ≠ .tbl ps) ∧ ∀ φ, u ≠ .ext φ
def Tb (T : List (Addr × Str)) (F Hb H : Hp) : Prop := LamX.Tabs T H ∧ (∀ b ps, Hb b ≠ some (.tbl ps)) ∧ ∀ b u, F b = some u → Cm u
section
variable {T : List (Addr × Str)} {F0 Hb H : Hp} {p a : Addr} {o u : HO}
theorem Tb.new (t : Tb T F0 Hb H) (hp : H p = none) : Tb T F0 Hb (upd H p o) := ⟨t.1.ext fun b u e => by rw [upd_ne (ne_of_none e hp)]; exact e, t.2⟩
theorem Tb.wr (t : Tb T F0 Hb H) (e : H a = some u) (h1 : ∀ ps, u ≠ .tbl ps) (h2 : ∀ φ, u ≠ .ext φ) : Tb T F0 Hb (upd H a o) := by
  refine ⟨fun q hq => ?_, t.2⟩
  obtain ⟨ps, e1, e2, e3⟩ := t.1 q hq
  refine ⟨ps, ?_, e2, fun pos cv hc => ?_⟩
  · rw [upd_ne (fun z => h1 ps (by rw [z, e] at e1; exact Option.some.inj e1))]; exact e1
  · obtain ⟨c, c1, c2⟩ := e3 pos cv hc
    refine ⟨c, c1, ?_⟩
    rw [upd_ne (fun z => h2 _ (by rw [z, e] at c2; exact Option.some.inj c2))]; exact c2
theorem upd_nt {G : Hp} (h : ∀ b ps, G b ≠ some (.tbl ps)) (ho : ∀ ps, o ≠ .tbl ps) : ∀ b ps, upd G p o b ≠ some (.tbl ps) := fun b ps e => by
  by_cases hb : b = p
  · subst hb; rw [upd_same] at e; exact ho ps (Option.some.inj e)
  · rw [upd_ne hb] at e; exact h b ps e
theorem Tb.hb (t : Tb T F0 Hb H) (ho : ∀ ps, o ≠ .tbl ps) : Tb T F0 (upd Hb p o) H := ⟨t.1, upd_nt t.2.1 ho, t.2.2⟩
theorem upd_cm {G : Hp} (h : ∀ b u, G b = some u → Cm u) (ho : Cm o) : ∀ b u, upd G p o b = some u → Cm u := fun b u e => by
  by_cases hb : b = p
  · subst hb; rw [upd_same] at e; cases e; exact ho
  · rw [upd_ne hb] at e; exact h b u e
theorem Tb.fb (t : Tb T F0 Hb H) (ho : Cm o) : Tb T (upd F0 p o) Hb H := ⟨t.1, t.2.1, upd_cm t.2.2 ho⟩
end
/-- the heap H: the part Hb that stands still, the objects M that may change, the objects F of somebody else -/
structure Own (K : PySem.W.Frag) (F : Fo) (M : Mm) (Hb H : Hp) : Prop where
  same : Same Hb H
  fr : Same F.hp H
  mt : ∀ a d, M a = some d → MRep K H Hb a d ∧ Hb a = none ∧ F.hp a = none
  dj : ∀ a o, F.hp a = some o → Hb a = none
  tb : Tb F.tb F.hp Hb H
theorem MRep.nt {K : PySem.W.Frag} {H Hb : Hp} {a : Addr} {d : Dt} (h : MRep K H Hb a d) : ∃ u, H a = some u ∧ (∀ ps, u ≠ .tbl ps) ∧ ∀ φ, u ≠ .ext φ := by
  cases h with
  | lst h _ => exact ⟨_, h, (fun _ z => by cases z), fun _ z => by cases z⟩
  | dic h _ => exact ⟨_, h, (fun _ z => by cases z), fun _ z => by cases z⟩
  | obj h _ => exact ⟨_, h, (fun _ z => by cases z), fun _ z => by cases z⟩
section
variable {K : PySem.W.Frag} {F : Fo} {M : Mm} {Hb H : Hp} {p : Addr} {o : HO}
theorem Own.free (O : Own K F M Hb H) (hp : H p = none) : Hb p = none ∧ F.hp p = none ∧ M p = none := by
  refine ⟨O.same.free hp, O.fr.free hp, ?_⟩
  cases e : M p with
  | none => rfl
  | some d =>
    obtain ⟨u, h⟩ := (O.mt p d e).1.there
    rw [hp] at h; cases h
theorem same_new (hp : H p = none) : Same H (upd H p o) := fun b u e => by rw [upd_ne (ne_of_none e hp)]; exact e
theorem Own.neM (O : Own K F M Hb H) (hp : H p = none) {a : Addr} {d : Dt} (e : M a = some d) : a ≠ p := fun z => by
  rw [z, (O.free hp).2.2] at e; cases e
/-- a new object that stands still -/
theorem Own.new (O : Own K F M Hb H) (hp : H p = none) (ho : ∀ ps, o ≠ .tbl ps := by intro _ h; cases h) : Own K F M (upd Hb p o) (upd H p o) := by
  obtain ⟨f1, f2, f3⟩ := O.free hp
  refine ⟨fun b u e => ?_, fun b u e => ?_, fun a d e => ?_, fun a u e => ?_, (O.tb.new hp).hb ho⟩
  · by_cases h : b = p
    · subst h; rw [upd_same] at e ⊢; exact e
    · rw [upd_ne h] at e ⊢; exact O.same b u e
  · rw [upd_ne (ne_of_none e f2)]; exact O.fr b u e
  · have ne := O.neM hp e
    obtain ⟨h1, h2, h3⟩ := O.mt a d e
    exact ⟨h1.up (fun o q => by rw [upd_ne ne]; exact q) (same_new f1), by rw [upd_ne ne]; exact h2, h3⟩
  · rw [upd_ne (ne_of_none e f2)]; exact O.dj a u e
/-- a new object that may change -/
theorem Own.newM (O : Own K F M Hb H) (hp : H p = none) {d : Dt} (r : MRep K (upd H p o) Hb p d) : Own K F (mput M p d) Hb (upd H p o) := by
  obtain ⟨f1, f2, f3⟩ := O.free hp
  refine ⟨fun b u e => ?_, fun b u e => ?_, fun a d' e => ?_, O.dj, O.tb.new hp⟩
  · rw [upd_ne (ne_of_none e f1)]; exact O.same b u e
  · rw [upd_ne (ne_of_none e f2)]; exact O.fr b u e
  · by_cases h : a = p
    · subst h
      rw [mput_same] at e
      cases e
      exact ⟨r, f1, f2⟩
    · rw [mput_ne h] at e
      obtain ⟨h1, h2, h3⟩ := O.mt a d' e
      exact ⟨h1.up (fun o q => by rw [upd_ne h]; exact q) (Same.refl _), h2, h3⟩
/-- a change -/
theorem Own.wr (O : Own K F M Hb H) {a : Addr} {d d' : Dt} (e : M a = some d) (r : MRep K (upd H a o) Hb a d') : Own K F (mput M a d') Hb (upd H a o) := by
  obtain ⟨g1, g2, g3⟩ := O.mt a d e
  obtain ⟨u0, n1, n2, n3⟩ := g1.nt
  refine ⟨fun b u q => ?_, fun b u q => ?_, fun b d'' q => ?_, O.dj, O.tb.wr n1 n2 n3⟩
  · rw [upd_ne (ne_of_none q g2)]; exact O.same b u q
  · rw [upd_ne (ne_of_none q g3)]; exact O.fr b u q
  · by_cases h : b = a
    · subst h
      rw [mput_same] at q
      cases q
      exact ⟨r, g2, g3⟩
    · rw [mput_ne h] at q
      obtain ⟨h1, h2, h3⟩ := O.mt b d'' q
      exact ⟨h1.up (fun o q => by rw [upd_ne h]; exact q) (Same.refl _), h2, h3⟩
/-- what may change no longer does -/
theorem Own.freeze (O : Own K F M Hb H) {a : Addr} {xs : List Dt} (e : M a = some (.lst xs)) : ∃ vs, H a = some (.lst vs) ∧ Same Hb (upd Hb a (.lst vs)) ∧ Own K F (mdel M a) (upd Hb a (.lst vs)) H ∧ Rep K (upd Hb a (.lst vs)) (.ref a) (.lst xs) := by
  obtain ⟨g1, g2, g3⟩ := O.mt a _ e
  cases g1 with
  | lst h l =>
    rename_i vs
    have s : Same Hb (upd Hb a (.lst vs)) := same_new g2
    refine ⟨vs, h, s, ⟨fun b u q => ?_, O.fr, fun b d q => ?_, fun b u q => ?_, O.tb.hb (by intro _ h; cases h)⟩, .lst upd_same (l.up s)⟩
    · by_cases hb : b = a
      · subst hb; rw [upd_same] at q; cases q; exact h
      · rw [upd_ne hb] at q; exact O.same b u q
    · by_cases hb : b = a
      · subst hb; unfold mdel at q; rw [if_pos rfl] at q; cases q
      · rw [mdel_ne hb] at q
        obtain ⟨h1, h2, h3⟩ := O.mt b d q
        exact ⟨h1.up (fun _ z => z) s, by rw [upd_ne hb]; exact h2, h3⟩
    · rw [upd_ne (fun z => by rw [z, g3] at q; cases q)]; exact O.dj b u q
end

/-! ### readings over data -/
abbrev DSt := List (Option Dt)
abbrev DQ := Dt → Mm → Prop
abbrev DTE := DSt → Mm → DQ → Prop
abbrev DTT := DSt → Mm → (Bool → Mm → Prop) → Prop
abbrev DTA := DSt → Mm → (List Dt → Mm → Prop) → Prop
structure DEnds where
  nx : DSt → Mm → Prop
  rt : DQ
  bk : DSt → Mm → Prop := fun _ _ => False
  ct : DSt → Mm → Prop := fun _ _ => False
abbrev DTS := DEnds → DSt → Mm → Prop
/-- what is wanted of an exception: its class's name, its fields, what may change -/
abbrev DX := Str → List (Str × Dt) → Mm → Prop
abbrev DSp := List Dt → Mm → DQ → DX → Prop

def SRep (K : PySem.W.Frag) (Hb : Hp) (σ : St) (ds : DSt) : Prop := σ.length = ds.length ∧ ∀ (i : Nat) (d : Dt), ds[i]? = some (some d) → ∃ v, σ[i]? = some (some v) ∧ Rep K Hb v d
theorem SRep.up {K : PySem.W.Frag} {Hb Hb' : Hp} {σ : St} {ds : DSt} (h : SRep K Hb σ ds) (s : Same Hb Hb') : SRep K Hb' σ ds := ⟨h.1, fun i d e => by
  obtain ⟨v, h1, h2⟩ := h.2 i d e
  exact ⟨v, h1, h2.up s⟩⟩
theorem SRep.set {K : PySem.W.Frag} {Hb : Hp} {σ : St} {ds : DSt} {v : V} {d : Dt} (i : Nat) (h : SRep K Hb σ ds) (r : Rep K Hb v d) : SRep K Hb (σ.set i (some v)) (ds.set i (some d)) := by
  refine ⟨by rw [List.length_set, List.length_set]; exact h.1, fun j e q => ?_⟩
  by_cases hj : j = i
  · subst hj
    by_cases hl : j < ds.length
    · rw [List.getElem?_set_self hl] at q
      cases q
      exact ⟨v, List.getElem?_set_self (by rw [h.1]; exact hl), r⟩
    · rw [List.getElem?_eq_none (by simpa using hl)] at q
      cases q
  · rw [List.getElem?_set_ne (Ne.symm hj)] at q
    obtain ⟨w, h1, h2⟩ := h.2 j e q
    exact ⟨w, by rw [List.getElem?_set_ne (Ne.symm hj)]; exact h1, h2⟩

section
variable (K : PySem.W.Frag) (F : Fo) (Hb : Hp)
/-- the wish over data that a wish over the heap is -/
def Cl (Q : VK) : DQ := fun x M => ∀ v Hb' H', Same Hb Hb' → Own K F M Hb' H' → Rep K Hb' v x → Q v H'
def ClB (Q : Bool → Hp → Prop) : Bool → Mm → Prop := fun b M => ∀ Hb' H', Same Hb Hb' → Own K F M Hb' H' → Q b H'
def ClA (Q : List V → Hp → Prop) : List Dt → Mm → Prop := fun xs M => ∀ vs Hb' H', Same Hb Hb' → Own K F M Hb' H' → RepL K Hb' vs xs → Q vs H'
def ClS (P : St → Hp → Prop) : DSt → Mm → Prop := fun ds M => ∀ σ Hb' H', Same Hb Hb' → Own K F M Hb' H' → SRep K Hb' σ ds → P σ H'
def ClE (D : Ends) : DEnds := { nx := ClS K F Hb D.nx, rt := Cl K F Hb D.rt, bk := ClS K F Hb D.bk, ct := ClS K F Hb D.ct }
end
section
variable {K : PySem.W.Frag} {F : Fo} {Hb Hb1 : Hp} {M : Mm}
theorem Cl.up {Q : VK} {x : Dt} (s : Same Hb Hb1) (h : Cl K F Hb Q x M) : Cl K F Hb1 Q x M := fun v Hb' H' s' => h v Hb' H' (s.trans s')
theorem ClB.up {Q : Bool → Hp → Prop} {x : Bool} (s : Same Hb Hb1) (h : ClB K F Hb Q x M) : ClB K F Hb1 Q x M := fun Hb' H' s' => h Hb' H' (s.trans s')
theorem ClA.up {Q : List V → Hp → Prop} {x : List Dt} (s : Same Hb Hb1) (h : ClA K F Hb Q x M) : ClA K F Hb1 Q x M := fun v Hb' H' s' => h v Hb' H' (s.trans s')
theorem ClS.up {P : St → Hp → Prop} {ds : DSt} (s : Same Hb Hb1) (h : ClS K F Hb P ds M) : ClS K F Hb1 P ds M := fun v Hb' H' s' => h v Hb' H' (s.trans s')
end
structure DEnds.le (D D' : DEnds) : Prop where
  nx : ∀ ds M, D.nx ds M → D'.nx ds M
  rt : ∀ x M, D.rt x M → D'.rt x M
  bk : ∀ ds M, D.bk ds M → D'.bk ds M
  ct : ∀ ds M, D.ct ds M → D'.ct ds M
theorem DEnds.le.refl (D : DEnds) : D.le D := ⟨fun _ _ h => h, fun _ _ h => h, fun _ _ h => h, fun _ _ h => h⟩
theorem ClE.up {K : PySem.W.Frag} {F : Fo} {Hb Hb1 : Hp} {D : Ends} (s : Same Hb Hb1) : (ClE K F Hb D).le (ClE K F Hb1 D) := ⟨fun _ _ h => ClS.up s h, fun _ _ h => Cl.up s h, fun _ _ h => ClS.up s h, fun _ _ h => ClS.up s h⟩

/-- where a body stands: what is known of (F, Hb) throughout -/
structure Lk where
  g : Fo → Hp → Prop
  up : ∀ {F : Fo} {Hb Hb' : Hp}, g F Hb → Same Hb Hb' → g F Hb'
def Lk.any : Lk := ⟨fun _ _ => True, fun _ _ => trivial⟩
def Lk.at (F0 : Fo) (Hb0 : Hp) : Lk := ⟨fun F Hb => F = F0 ∧ Same Hb0 Hb, fun h s => ⟨h.1, h.2.trans s⟩⟩

structure LE (K : PySem.W.Frag) (G : Lk) (te : TE) (d : DTE) : Prop where
  mono : ∀ {ds : DSt} {M : Mm} {Q Q' : DQ}, (∀ x M', Q x M' → Q' x M') → d ds M Q → d ds M Q'
  run : ∀ {F : Fo} {σ : St} {ds : DSt} {Hb H : Hp} {M : Mm} {Q : VK}, G.g F Hb → Own K F M Hb H → SRep K Hb σ ds → d ds M (Cl K F Hb Q) → te σ H Q
structure LT (K : PySem.W.Frag) (G : Lk) (te : TT) (d : DTT) : Prop where
  mono : ∀ {ds : DSt} {M : Mm} {Q Q' : Bool → Mm → Prop}, (∀ x M', Q x M' → Q' x M') → d ds M Q → d ds M Q'
  run : ∀ {F : Fo} {σ : St} {ds : DSt} {Hb H : Hp} {M : Mm} {Q : Bool → Hp → Prop}, G.g F Hb → Own K F M Hb H → SRep K Hb σ ds → d ds M (ClB K F Hb Q) → te σ H Q
structure LA (K : PySem.W.Frag) (G : Lk) (te : TA) (d : DTA) : Prop where
  mono : ∀ {ds : DSt} {M : Mm} {Q Q' : List Dt → Mm → Prop}, (∀ x M', Q x M' → Q' x M') → d ds M Q → d ds M Q'
  run : ∀ {F : Fo} {σ : St} {ds : DSt} {Hb H : Hp} {M : Mm} {Q : List V → Hp → Prop}, G.g F Hb → Own K F M Hb H → SRep K Hb σ ds → d ds M (ClA K F Hb Q) → te σ H Q
structure LS (K : PySem.W.Frag) (G : Lk) (te : TS) (d : DTS) : Prop where
  mono : ∀ {ds : DSt} {M : Mm} {D D' : DEnds}, D.le D' → d D ds M → d D' ds M
  run : ∀ {F : Fo} {σ : St} {ds : DSt} {Hb H : Hp} {M : Mm} {D : Ends}, G.g F Hb → Own K F M Hb H → SRep K Hb σ ds → d (ClE K F Hb D) ds M → te D σ H
def DE (X : Cx) (G : Lk) (e : Expr) (d : DTE) : Prop := ∃ t, PE X e t ∧ LE X.K G t d
def DT (X : Cx) (G : Lk) (e : Expr) (d : DTT) : Prop := ∃ t, PT X e t ∧ LT X.K G t d
def DA (X : Cx) (G : Lk) (e : List Expr) (d : DTA) : Prop := ∃ t, PA X e t ∧ LA X.K G t d
def DS (X : Cx) (G : Lk) (e : Stmt) (d : DTS) : Prop := ∃ t, PS X e t ∧ LS X.K G t d
def DSs (X : Cx) (G : Lk) (e : List Stmt) (d : DTS) : Prop := ∃ t, PSs X e t ∧ LS X.K G t d

/-! ### names, constants, arguments, displays -/
def dVar (i : Nat) : DTE := fun ds M Q => match ds[i]? with
  | some (some d) => Q d M
  | _ => False
def dC (d : Dt) : DTE := fun _ M Q => Q d M
section
variable {X : Cx} {G : Lk}
theorem de_var (i : Nat) {x : Str} {pos : Pos} (hN : X.N[i]? = some x := by rfl) (hv : Vis X.env.scope x := by first | exact Or.inl rfl | exact Or.inr (Or.inl rfl) | exact Or.inr (Or.inr rfl)) (hd : (x == ("__debug__" : Str)) = false := by decide)
    (hcd : (x == ("__classdict__" : Str)) = false := by decide) : DE X G (.Name x pos) (dVar i) := by
  refine ⟨tVar i, pe_var hN hv hd hcd, ⟨fun {ds M Q Q'} hq h => ?_, fun {F σ ds Hb H M Q} g O S h => ?_⟩⟩
  · unfold dVar at h ⊢
    split at h
    · exact hq _ _ h
    · exact h.elim
  · unfold dVar at h
    split at h
    · rename_i d e
      obtain ⟨v, h1, h2⟩ := S.2 i d e
      exact ⟨v, h1, h v Hb H (Same.refl _) O h2⟩
    · exact h.elim
theorem de_c {e : Expr} {v : V} {d : Dt} (h : PE X e (tC v)) (r : ∀ H, Rep X.K H v d) : DE X G e (dC d) :=
  ⟨tC v, h, ⟨fun hq h => hq _ _ h, fun g O S h => h v _ _ (Same.refl _) O (r _)⟩⟩
theorem de_int {i j pos} : DE X G (.Constant (.int i) j pos) (dC (.int i)) := de_c pe_int fun _ => .int
theorem de_str {i j pos} : DE X G (.Constant (.str i) j pos) (dC (.str i)) := de_c pe_str fun _ => .str
theorem de_bl {i j pos} : DE X G (.Constant (.bool i) j pos) (dC (.bl i)) := de_c pe_bl fun _ => .bl
theorem de_non {j pos} : DE X G (.Constant .none j pos) (dC .non) := de_c pe_non fun _ => .non

def dNil : DTA := fun _ M Q => Q [] M
def dCons (da : DTE) (dr : DTA) : DTA := fun ds M Q => da ds M fun x M1 => dr ds M1 fun xs M2 => Q (x :: xs) M2
theorem da_nil : DA X G [] dNil := ⟨tNil, pa_nil, ⟨fun hq h => hq _ _ h, fun g O S h => h [] _ _ (Same.refl _) O .nil⟩⟩
theorem da_cons {e : Expr} {es : List Expr} {da : DTE} {dr : DTA} (ha : DE X G e da) (hr : DA X G es dr) (hs : starEach (e :: es) X.env = (false, eval e X.env) :: starEach es X.env := by rfl) : DA X G (e :: es) (dCons da dr) := by
  obtain ⟨ta, pa, la⟩ := ha
  obtain ⟨tr, pr, lr⟩ := hr
  refine ⟨tCons ta tr, pa_cons pa pr hs, ⟨fun hq h => la.mono (fun x M1 h1 => lr.mono (fun xs M2 h2 => hq _ _ h2) h1) h, fun {F σ ds Hb H M Q} g O S h => ?_⟩⟩
  refine la.run g O S (la.mono (fun x M1 h1 v Hb1 H1 s1 O1 r1 => ?_) h)
  refine lr.run (G.up g s1) O1 (S.up s1) (lr.mono (fun xs M2 h2 vs Hb2 H2 s2 O2 r2 => ?_) h1)
  exact h2 (v :: vs) Hb2 H2 (s1.trans s2) O2 (.cons (r1.up s2) r2)
/-- a new list, that stands still or may change -/
def newL (m : Bool) (xs : List Dt) (M : Mm) (Q : DQ) : Prop := match m with
  | false => Q (.lst xs) M
  | true => ∀ p, M p = none → Q (.cel p) (mput M p (.lst xs))
theorem newL_mono {m : Bool} {xs : List Dt} {M : Mm} {Q Q' : DQ} (hq : ∀ x M', Q x M' → Q' x M') (h : newL m xs M Q) : newL m xs M Q' := by
  cases m with
  | false => exact hq _ _ h
  | true => exact fun p hp => hq _ _ (h p hp)
theorem newL_run {K : PySem.W.Frag} {F : Fo} {Hb H : Hp} {M : Mm} {m : Bool} {xs : List Dt} {vs : List V} {Q : VK} (O : Own K F M Hb H) (r : RepL K Hb vs xs) (h : newL m xs M (Cl K F Hb Q)) : ∀ p, H p = none → Q (.ref p) (upd H p (.lst vs)) := by
  intro p hp
  cases m with
  | false => exact h (.ref p) _ _ (same_new (O.free hp).1) (O.new hp) (.lst upd_same (r.up (same_new (O.free hp).1)))
  | true => exact h p (O.free hp).2.2 (.ref p) Hb _ (Same.refl _) (O.newM hp (.lst upd_same r)) .cel
def dTup (t : DTA) : DTE := fun ds M Q => t ds M fun xs M1 => xs.length ≤ sizeLine ∧ Q (.tup xs) M1
def dLst (m : Bool) (t : DTA) : DTE := fun ds M Q => t ds M fun xs M1 => xs.length ≤ sizeLine ∧ newL m xs M1 Q
theorem tup_run {K : PySem.W.Frag} {F : Fo} {Hb H : Hp} {M : Mm} {xs : List Dt} {vs : List V} {Q : VK} (O : Own K F M Hb H) (r : RepL K Hb vs xs) (h : Cl K F Hb Q (.tup xs) M) : ∀ p, H p = none → Q (.ref p) (upd H p (.tup vs)) := fun p hp =>
  h (.ref p) _ _ (same_new (O.free hp).1) (O.new hp) (.tup (SqT.of upd_same) (r.up (same_new (O.free hp).1)))
theorem de_tup {es : List Expr} {t : DTA} {x1 pos} (h : DA X G es t) : DE X G (.Tuple es x1 pos) (dTup t) := by
  obtain ⟨ta, pa, la⟩ := h
  refine ⟨tTup ta, pe_tup pa, ⟨fun hq h => la.mono (fun x M1 h1 => ⟨h1.1, hq _ _ h1.2⟩) h, fun {F σ ds Hb H M Q} g O S h => ?_⟩⟩
  refine la.run g O S (la.mono (fun xs M1 h1 vs Hb1 H1 s1 O1 r1 => ?_) h)
  exact ⟨by rw [r1.length]; exact h1.1, tup_run O1 r1 (Cl.up s1 h1.2)⟩
theorem de_lst (m : Bool) {es : List Expr} {t : DTA} {pos} (h : DA X G es t) : DE X G (.List es pos) (dLst m t) := by
  obtain ⟨ta, pa, la⟩ := h
  refine ⟨tLst ta, pe_lst pa, ⟨fun hq h => la.mono (fun x M1 h1 => ⟨h1.1, newL_mono hq h1.2⟩) h, fun {F σ ds Hb H M Q} g O S h => ?_⟩⟩
  refine la.run g O S (la.mono (fun xs M1 h1 vs Hb1 H1 s1 O1 r1 => ?_) h)
  exact ⟨by rw [r1.length]; exact h1.1, newL_run O1 r1 (newL_mono (fun _ _ z => Cl.up s1 z) h1.2)⟩
end
end DL
set_option Elab.async false
set_option linter.all false
set_option maxRecDepth 100000
set_option maxHeartbeats 4000000
/-! D layer, part B: operators, comparisons, tests, subscripts, slices, built-ins, attributes. -/
namespace DL
open PySem PySem.Spec PyProof.Rows L2

/-! ### views -/
/-- a plain list's items -/
def lview (M : Mm) : Dt → Option (List Dt)
  | .lst xs => some xs
  | .cel a => match M a with
    | some (.lst xs) => some xs
    | _ => none
  | _ => none
/-- a list that is read -/
def rview (M : Mm) : Dt → Option (List Dt)
  | .ro xs => some xs
  | x => lview M x
@[simp] theorem lview_lst {M : Mm} {xs : List Dt} : lview M (.lst xs) = some xs := rfl
@[simp] theorem rview_lst {M : Mm} {xs : List Dt} : rview M (.lst xs) = some xs := rfl
@[simp] theorem rview_ro {M : Mm} {xs : List Dt} : rview M (.ro xs) = some xs := rfl
theorem lview_cel {M : Mm} {a : Addr} {xs : List Dt} (h : M a = some (.lst xs)) : lview M (.cel a) = some xs := by
  show (match M a with | some (.lst xs) => some xs | _ => none) = some xs
  rw [h]
theorem rview_cel {M : Mm} {a : Addr} {xs : List Dt} (h : M a = some (.lst xs)) : rview M (.cel a) = some xs := lview_cel h
section
variable {K : PySem.W.Frag} {F : Fo} {Hb H : Hp} {M : Mm} {v : V} {x : Dt} {xs : List Dt}
theorem lview_run (O : Own K F M Hb H) (r : Rep K Hb v x) (h : lview M x = some xs) : ∃ a vs, v = .ref a ∧ H a = some (.lst vs) ∧ RepL K Hb vs xs := by
  cases r with
  | lst h1 h2 =>
    cases h
    exact ⟨_, _, rfl, O.same _ _ h1, h2⟩
  | cel =>
    rename_i a
    have h' : (match M a with | some (.lst xs) => some xs | _ => none) = some xs := h
    cases e : M a with
    | none => rw [e] at h'; cases h'
    | some d =>
      rw [e] at h'
      have q := (O.mt a d e).1
      cases q with
      | lst q1 q2 =>
        cases h'
        exact ⟨_, _, rfl, q1, q2⟩
      | dic _ _ => cases h'
      | obj _ _ => cases h'
  | _ => cases h
theorem rview_run (O : Own K F M Hb H) (r : Rep K Hb v x) (h : rview M x = some xs) : ∃ a vs, v = .ref a ∧ SqL K H a vs ∧ RepL K Hb vs xs := by
  cases r with
  | ro h1 h2 =>
    cases h
    exact ⟨_, _, rfl, SqL.up O.same h1, h2⟩
  | lst h1 h2 =>
    cases h
    exact ⟨_, _, rfl, SqL.of (O.same _ _ h1), h2⟩
  | cel =>
    obtain ⟨a, vs, e, h1, h2⟩ := lview_run O (.cel) (show lview M _ = some xs from h)
    exact ⟨a, vs, e, SqL.of h1, h2⟩
  | _ => cases h
end

/-! ### operators by values -/
abbrev DR2 := Dt → Dt → Mm → DQ → Prop
structure LR (K : PySem.W.Frag) (r : R2) (d : DR2) : Prop where
  mono : ∀ {x y : Dt} {M : Mm} {Q Q' : DQ}, (∀ z M', Q z M' → Q' z M') → d x y M Q → d x y M Q'
  run : ∀ {F : Fo} {Hb H : Hp} {M : Mm} {x y : Dt} {v w : V} {Q : VK}, Own K F M Hb H → Rep K Hb v x → Rep K Hb w y → d x y M (Cl K F Hb Q) → r v w H Q
def dOp (r : DR2) (da db : DTE) : DTE := fun ds M Q => da ds M fun x M1 => db ds M1 fun y M2 => r x y M2 Q
section
variable {X : Cx} {G : Lk} {a b : Expr} {da db : DTE} {r : R2} {d : DR2} {pos : Pos}
theorem le_op {ta tb : TE} {K : PySem.W.Frag} (la : LE K G ta da) (lb : LE K G tb db) (lr : LR K r d) : LE K G (tOp r ta tb) (dOp d da db) := by
  refine ⟨fun hq h => la.mono (fun x M1 h1 => lb.mono (fun y M2 h2 => lr.mono hq h2) h1) h, fun {F σ ds Hb H M Q} g O S h => ?_⟩
  refine la.run g O S (la.mono (fun x M1 h1 v Hb1 H1 s1 O1 r1 => ?_) h)
  refine lb.run (G.up g s1) O1 (S.up s1) (lb.mono (fun y M2 h2 w Hb2 H2 s2 O2 r2 => ?_) h1)
  exact lr.run O2 (r1.up s2) r2 (lr.mono (fun z M3 h3 => Cl.up (s1.trans s2) h3) h2)
theorem de_op {op : Operator} (ho : OpR X (binaryOp op) r) (lr : LR X.K r d) (ha : DE X G a da) (hb : DE X G b db) : DE X G (.BinOp a op b pos) (dOp d da db) := by
  obtain ⟨ta, pa, la⟩ := ha
  obtain ⟨tb, pb, lb⟩ := hb
  exact ⟨_, pe_op ho pa pb, le_op la lb lr⟩
theorem de_cmp {op : CmpOp} (ho : OpR X (compareOp op) r) (lr : LR X.K r d) (ha : DE X G a da) (hb : DE X G b db) (hm : behindInMarks op b = false := by first | exact nomark _ | rfl) : DE X G (.Compare a [op] [b] pos) (dOp d da db) := by
  obtain ⟨ta, pa, la⟩ := ha
  obtain ⟨tb, pb, lb⟩ := hb
  exact ⟨_, pe_cmpR ho pa pb hm, le_op la lb lr⟩
/-- a value that is a bool, as a test -/
def dTest (t : DTE) : DTT := fun ds M Q => t ds M fun x M' => match x with
  | .bl k => Q k M'
  | _ => False
theorem lt_test {t : TE} {d : DTE} {K : PySem.W.Frag} (h : LE K G t d) : LT K G (tTest t) (dTest d) := by
  refine ⟨fun hq h1 => h.mono (fun x M1 h2 => ?_) h1, fun {F σ ds Hb H M Q} g O S h1 => ?_⟩
  · cases x <;> first | exact h2.elim | exact hq _ _ h2
  · refine h.run g O S (h.mono (fun x M1 h2 v Hb1 H1 s1 O1 r1 => ?_) h1)
    cases r1 with
    | bl => exact ⟨_, rfl, h2 _ _ s1 O1⟩
    | _ => exact h2.elim
theorem dt_cmp {op : CmpOp} (ho : OpR X (compareOp op) r) (lr : LR X.K r d) (ha : DE X G a da) (hb : DE X G b db) (hm : behindInMarks op b = false := by first | exact nomark _ | rfl) : DT X G (.Compare a [op] [b] pos) (dTest (dOp d da db)) := by
  obtain ⟨ta, pa, la⟩ := ha
  obtain ⟨tb, pb, lb⟩ := hb
  exact ⟨_, pt_cmpR ho pa pb hm, lt_test (le_op la lb lr)⟩
theorem dt_val {e : Expr} {d : DTE} (h : DE X G e d) (he : ∀ whole, isTrue e X.env whole = (do let v ← whole; standAt e.pos; holding [v] (truthy v)) := by intro _; rfl) : DT X G e (dTest d) := by
  obtain ⟨t, p, l⟩ := h
  exact ⟨_, pt_val p he, lt_test l⟩
def truD (M : Mm) : Dt → Option Bool
  | .non => some false
  | .bl b => some b
  | .int i => some (i != 0)
  | .str y => if y.length ≤ sizeLine then some ((y.length : Int) != 0) else none
  | .tup xs => some !xs.isEmpty
  | x => (rview M x).map fun xs => !xs.isEmpty
def dTru (t : DTE) : DTT := fun ds M Q => t ds M fun x M' => match truD M' x with
  | some k => Q k M'
  | none => False
theorem isEmpty_rep {K : PySem.W.Frag} {H : Hp} {vs : List V} {xs : List Dt} (h : RepL K H vs xs) : xs.isEmpty = vs.isEmpty := by cases h <;> rfl
theorem tru_run {K : PySem.W.Frag} {F : Fo} {Hb H : Hp} {M : Mm} {v : V} {x : Dt} {k : Bool} (O : Own K F M Hb H) (r : Rep K Hb v x) (h : truD M x = some k) : TruV K v H k := by
  cases r with
  | non => cases h; rfl
  | bl => cases h; rfl
  | int => cases h; rfl
  | str =>
    rename_i y
    have h' : (if y.length ≤ sizeLine then some ((y.length : Int) != 0) else none) = some k := h
    split at h'
    · cases h'; exact ⟨by assumption, rfl⟩
    · cases h'
  | tup h1 h2 =>
    cases h
    exact .inr (.inl ⟨_, SqT.up O.same h1, by show (!_) = _; rw [isEmpty_rep h2]⟩)
  | lst h1 h2 =>
    cases h
    exact .inl ⟨_, SqL.of (O.same _ _ h1), by show (!_) = _; rw [isEmpty_rep h2]⟩
  | ro h1 h2 =>
    cases h
    exact .inl ⟨_, SqL.up O.same h1, by show (!_) = _; rw [isEmpty_rep h2]⟩
  | dic _ _ => cases h
  | obj _ _ => cases h
  | cel =>
    rename_i a
    have h' : (rview M (.cel a)).map (fun xs => !xs.isEmpty) = some k := h
    cases e : rview M (.cel a) with
    | none => rw [e] at h'; cases h'
    | some xs =>
      rw [e] at h'
      cases h'
      obtain ⟨b, vs, e1, h1, h2⟩ := rview_run O (.cel) e
      cases e1
      exact .inl ⟨_, h1, by show (!_) = _; rw [isEmpty_rep h2]⟩
theorem dt_truth {e : Expr} {d : DTE} (h : DE X G e d) (he : ∀ whole, isTrue e X.env whole = (do let v ← whole; standAt e.pos; holding [v] (truthy v)) := by intro _; rfl) : DT X G e (dTru d) := by
  obtain ⟨t, p, l⟩ := h
  refine ⟨_, pt_truth p he, ⟨fun hq h1 => l.mono (fun x M1 h2 => ?_) h1, fun {F σ ds Hb H M Q} g O S h1 => ?_⟩⟩
  · split at h2
    · exact hq _ _ h2
    · exact h2.elim
  · refine l.run g O S (l.mono (fun x M1 h2 v Hb1 H1 s1 O1 r1 => ?_) h1)
    split at h2
    · rename_i k e
      exact ⟨k, tru_run O1 r1 e, h2 _ _ s1 O1⟩
    · exact h2.elim
end

/-! ### and, or, not, a if t else b -/
def DW (X : Cx) (G : Lk) (e : Expr) (d : DTT) : Prop := ∃ t, PW X e t ∧ LT X.K G t d
def dAnd (t u : DTT) : DTT := fun ds M Q => t ds M fun c M1 => if c = true then u ds M1 Q else Q false M1
def dOr (t u : DTT) : DTT := fun ds M Q => t ds M fun c M1 => if c = true then Q true M1 else u ds M1 Q
def dNot (t : DTT) : DTT := fun ds M Q => t ds M fun c M1 => Q (!c) M1
def dAndV (ta tb : DTE) : DTE := fun ds M Q => ta ds M fun x M1 => match x with
  | .bl true => tb ds M1 Q
  | .bl false => Q (.bl false) M1
  | _ => False
def dOrV (ta tb : DTE) : DTE := fun ds M Q => ta ds M fun x M1 => match x with
  | .bl true => Q (.bl true) M1
  | .bl false => tb ds M1 Q
  | _ => False
def dNotV (ta : DTE) : DTE := fun ds M Q => ta ds M fun x M1 => match x with
  | .bl b => Q (.bl (!b)) M1
  | _ => False
def dIf (t : DTT) (ta tb : DTE) : DTE := fun ds M Q => t ds M fun c M1 => if c = true then ta ds M1 Q else tb ds M1 Q
section
variable {X : Cx} {G : Lk} {a b : Expr} {da db : DTE} {pos : Pos} {t u : DTT} {rest : List Expr}
theorem lt_and {K : PySem.W.Frag} {tA tB : TT} (la : LT K G tA t) (lb : LT K G tB u) : LT K G (tAnd tA tB) (dAnd t u) := by
  refine ⟨fun hq h => la.mono (fun c M1 h1 => ?_) h, fun {F σ ds Hb H M Q} g O S h => ?_⟩
  · cases c
    · exact hq _ _ h1
    · exact lb.mono hq h1
  · refine la.run g O S (la.mono (fun c M1 h1 Hb1 H1 s1 O1 => ?_) h)
    cases c
    · exact h1 _ _ s1 O1
    · exact lb.run (G.up g s1) O1 (S.up s1) (lb.mono (fun _ _ z => ClB.up s1 z) h1)
theorem lt_or {K : PySem.W.Frag} {tA tB : TT} (la : LT K G tA t) (lb : LT K G tB u) : LT K G (tOr tA tB) (dOr t u) := by
  refine ⟨fun hq h => la.mono (fun c M1 h1 => ?_) h, fun {F σ ds Hb H M Q} g O S h => ?_⟩
  · cases c
    · exact lb.mono hq h1
    · exact hq _ _ h1
  · refine la.run g O S (la.mono (fun c M1 h1 Hb1 H1 s1 O1 => ?_) h)
    cases c
    · exact lb.run (G.up g s1) O1 (S.up s1) (lb.mono (fun _ _ z => ClB.up s1 z) h1)
    · exact h1 _ _ s1 O1
theorem dw_and1 (h : DT X G a t) : DW X G (.BoolOp .And [a] pos) t := by
  obtain ⟨ta, pa, la⟩ := h
  exact ⟨_, pw_and1 pa, la⟩
theorem dw_or1 (h : DT X G a t) : DW X G (.BoolOp .Or [a] pos) t := by
  obtain ⟨ta, pa, la⟩ := h
  exact ⟨_, pw_or1 pa, la⟩
theorem dw_and (h : DT X G a t) (k : DW X G (.BoolOp .And (b :: rest) pos) u) : DW X G (.BoolOp .And (a :: b :: rest) pos) (dAnd t u) := by
  obtain ⟨ta, pa, la⟩ := h
  obtain ⟨tb, pb, lb⟩ := k
  exact ⟨_, pw_and pa pb, lt_and la lb⟩
theorem dw_or (h : DT X G a t) (k : DW X G (.BoolOp .Or (b :: rest) pos) u) : DW X G (.BoolOp .Or (a :: b :: rest) pos) (dOr t u) := by
  obtain ⟨ta, pa, la⟩ := h
  obtain ⟨tb, pb, lb⟩ := k
  exact ⟨_, pw_or pa pb, lt_or la lb⟩
theorem dt_w {e : Expr} (h : DW X G e t) : DT X G e t := by
  obtain ⟨ta, pa, la⟩ := h
  exact ⟨_, pa.pt, la⟩
theorem dt_not (h : DT X G a t) : DT X G (.UnaryOp .Not a pos) (dNot t) := by
  obtain ⟨ta, pa, la⟩ := h
  exact ⟨_, pt_not pa, ⟨fun hq h => la.mono (fun c M1 h1 => hq _ _ h1) h, fun g O S h => la.run g O S (la.mono (fun c M1 h1 Hb1 H1 s1 O1 => h1 _ _ s1 O1) h)⟩⟩
theorem de_and1 {op} (h : DE X G a da) : DE X G (.BoolOp op [a] pos) da := by
  obtain ⟨ta, pa, la⟩ := h
  exact ⟨_, pe_one pa, la⟩
theorem de_and (h : DE X G a da) (k : DE X G (.BoolOp .And (b :: rest) pos) db) : DE X G (.BoolOp .And (a :: b :: rest) pos) (dAndV da db) := by
  obtain ⟨ta, pa, la⟩ := h
  obtain ⟨tb, pb, lb⟩ := k
  refine ⟨_, pe_and pa pb, ⟨fun hq h => la.mono (fun c M1 h1 => ?_) h, fun {F σ ds Hb H M Q} g O S h => ?_⟩⟩
  · split at h1
    · exact lb.mono hq h1
    · exact hq _ _ h1
    · exact h1.elim
  · refine la.run g O S (la.mono (fun c M1 h1 v Hb1 H1 s1 O1 r1 => ?_) h)
    split at h1
    · cases r1
      exact ⟨true, rfl, iteT (lb.run (G.up g s1) O1 (S.up s1) (lb.mono (fun _ _ z => Cl.up s1 z) h1))⟩
    · cases r1
      exact ⟨false, rfl, iteF (h1 _ _ _ s1 O1 .bl)⟩
    · exact h1.elim
theorem de_or (h : DE X G a da) (k : DE X G (.BoolOp .Or (b :: rest) pos) db) : DE X G (.BoolOp .Or (a :: b :: rest) pos) (dOrV da db) := by
  obtain ⟨ta, pa, la⟩ := h
  obtain ⟨tb, pb, lb⟩ := k
  refine ⟨_, pe_or pa pb, ⟨fun hq h => la.mono (fun c M1 h1 => ?_) h, fun {F σ ds Hb H M Q} g O S h => ?_⟩⟩
  · split at h1
    · exact hq _ _ h1
    · exact lb.mono hq h1
    · exact h1.elim
  · refine la.run g O S (la.mono (fun c M1 h1 v Hb1 H1 s1 O1 r1 => ?_) h)
    split at h1
    · cases r1
      exact ⟨true, rfl, iteT (h1 _ _ _ s1 O1 .bl)⟩
    · cases r1
      exact ⟨false, rfl, iteF (lb.run (G.up g s1) O1 (S.up s1) (lb.mono (fun _ _ z => Cl.up s1 z) h1))⟩
    · exact h1.elim
theorem de_not (h : DE X G a da) : DE X G (.UnaryOp .Not a pos) (dNotV da) := by
  obtain ⟨ta, pa, la⟩ := h
  refine ⟨_, pe_not pa, ⟨fun hq h => la.mono (fun c M1 h1 => ?_) h, fun {F σ ds Hb H M Q} g O S h => ?_⟩⟩
  · split at h1
    · exact hq _ _ h1
    · exact h1.elim
  · refine la.run g O S (la.mono (fun c M1 h1 v Hb1 H1 s1 O1 r1 => ?_) h)
    split at h1
    · cases r1
      exact ⟨_, rfl, h1 _ _ _ s1 O1 .bl⟩
    · exact h1.elim
theorem de_ifExp {c : Expr} (hc : DT X G c t) (ha : DE X G a da) (hb : DE X G b db) : DE X G (.IfExp c a b pos) (dIf t da db) := by
  obtain ⟨tc, pc, lc⟩ := hc
  obtain ⟨ta, pa, la⟩ := ha
  obtain ⟨tb, pb, lb⟩ := hb
  refine ⟨_, pe_ifExp pc pa pb, ⟨fun hq h => lc.mono (fun c M1 h1 => ?_) h, fun {F σ ds Hb H M Q} g O S h => ?_⟩⟩
  · cases c
    · exact lb.mono hq h1
    · exact la.mono hq h1
  · refine lc.run g O S (lc.mono (fun c M1 h1 Hb1 H1 s1 O1 => ?_) h)
    cases c
    · exact lb.run (G.up g s1) O1 (S.up s1) (lb.mono (fun _ _ z => Cl.up s1 z) h1)
    · exact la.run (G.up g s1) O1 (S.up s1) (la.mono (fun _ _ z => Cl.up s1 z) h1)
end
end DL
set_option Elab.async false
set_option linter.all false
set_option maxRecDepth 100000
set_option maxHeartbeats 4000000
/-! D layer, part C: the operators one by one, subscripts, slices. -/
namespace DL
open PySem PySem.Spec PyProof.Rows L2

def dEither (p q : DR2) : DR2 := fun x y M Q => p x y M Q ∨ q x y M Q
theorem LR.or {K : PySem.W.Frag} {r r' : R2} {d d' : DR2} (h : LR K r d) (h' : LR K r' d') : LR K (fun x y H Q => r x y H Q ∨ r' x y H Q) (dEither d d') :=
  ⟨fun hq h0 => h0.imp (h.mono hq) (h'.mono hq), fun O rx ry h0 => h0.imp (h.run O rx ry) (h'.run O rx ry)⟩
/-- ints -/
def dI (C : Int → Int → Prop) (g : Int → Int → Dt) : DR2 := fun x y M Q => match x, y with
  | .int i, .int j => C i j ∧ Q (g i j) M
  | _, _ => False
def dI0 (g : Int → Int → Dt) : DR2 := fun x y M Q => match x, y with
  | .int i, .int j => Q (g i j) M
  | _, _ => False
section
variable {K : PySem.W.Frag}
theorem lr_I {C : Int → Int → Prop} {gv : Int → Int → V} {g : Int → Int → Dt} (hg : ∀ i j H, Rep K H (gv i j) (g i j)) : LR K (rI C gv) (dI C g) := by
  refine ⟨fun {x y M Q Q'} hq h => ?_, fun {F Hb H M x y v w Q} O rx ry h => ?_⟩
  · unfold dI at h ⊢
    split at h
    · exact ⟨h.1, hq _ _ h.2⟩
    · exact h.elim
  · unfold dI at h
    split at h
    · cases rx; cases ry
      exact ⟨_, _, rfl, rfl, h.1, h.2 _ _ _ (Same.refl _) O (hg _ _ _)⟩
    · exact h.elim
theorem lr_I0 {gv : Int → Int → V} {g : Int → Int → Dt} (hg : ∀ i j H, Rep K H (gv i j) (g i j)) : LR K (rI0 gv) (dI0 g) := by
  refine ⟨fun {x y M Q Q'} hq h => ?_, fun {F Hb H M x y v w Q} O rx ry h => ?_⟩
  · unfold dI0 at h ⊢
    split at h
    · exact hq _ _ h
    · exact h.elim
  · unfold dI0 at h
    split at h
    · cases rx; cases ry
      exact ⟨_, _, rfl, rfl, h _ _ _ (Same.refl _) O (hg _ _ _)⟩
    · exact h.elim
/-- texts -/
def dAddS : DR2 := fun x y M Q => match x, y with
  | .str i, .str j => i.length + j.length ≤ sizeLine ∧ Q (.str (i ++ j)) M
  | _, _ => False
theorem lr_addS : LR K (fun x y H Q => ∃ i j, x = .str i ∧ y = .str j ∧ i.length + j.length ≤ sizeLine ∧ Q (.str (i ++ j)) H) dAddS := by
  refine ⟨fun {x y M Q Q'} hq h => ?_, fun {F Hb H M x y v w Q} O rx ry h => ?_⟩
  · unfold dAddS at h ⊢
    split at h
    · exact ⟨h.1, hq _ _ h.2⟩
    · exact h.elim
  · unfold dAddS at h
    split at h
    · cases rx; cases ry
      exact ⟨_, _, rfl, rfl, h.1, h.2 _ _ _ (Same.refl _) O .str⟩
    · exact h.elim
/-- tuples -/
def dAddT : DR2 := fun x y M Q => match x, y with
  | .tup xs, .tup ys => xs.length + ys.length ≤ sizeLine ∧ Q (.tup (xs ++ ys)) M
  | _, _ => False
theorem repL_nil_iff {H : Hp} {vs : List V} {xs : List Dt} (h : RepL K H vs xs) : vs = [] ↔ xs = [] := by cases h <;> simp
theorem lr_addT : LR K (rCatA K) dAddT := by
  refine ⟨fun {x y M Q Q'} hq h => ?_, fun {F Hb H M x y v w Q} O rx ry h => ?_⟩
  · unfold dAddT at h ⊢
    split at h
    · exact ⟨h.1, hq _ _ h.2⟩
    · exact h.elim
  · unfold dAddT at h
    split at h
    · cases rx with
      | tup h1 l1 =>
      cases ry with
      | tup h2 l2 =>
        refine ⟨_, _, _, _, rfl, rfl, SqT.up O.same h1, SqT.up O.same h2, by rw [l1.length, l2.length]; exact h.1, fun e => ?_, fun e1 e2 => ?_, fun e1 e2 => ?_⟩
        · have e' := (repL_nil_iff l1).mp e
          rw [e', List.nil_append] at h
          exact h.2 _ _ _ (Same.refl _) O (.tup h2 l2)
        · have e' := (repL_nil_iff l2).mp e2
          rw [e', List.append_nil] at h
          exact h.2 _ _ _ (Same.refl _) O (.tup h1 l1)
        · exact tup_run O (l1.append l2) h.2
    · exact h.elim
/-- lists -/
def dAddL (m : Bool) : DR2 := fun x y M Q => match lview M x, lview M y with
  | some xs, some ys => xs.length + ys.length ≤ sizeLine ∧ newL m (xs ++ ys) M Q
  | _, _ => False
theorem lr_addL (m : Bool) : LR K rCat (dAddL m) := by
  refine ⟨fun {x y M Q Q'} hq h => ?_, fun {F Hb H M x y v w Q} O rx ry h => ?_⟩
  · unfold dAddL at h ⊢
    split at h
    · exact ⟨h.1, newL_mono hq h.2⟩
    · exact h.elim
  · unfold dAddL at h
    split at h
    · rename_i xs ys e1 e2
      obtain ⟨a, vs, rfl, h1, l1⟩ := lview_run O rx e1
      obtain ⟨b, ws, rfl, h2, l2⟩ := lview_run O ry e2
      exact ⟨_, _, _, _, rfl, rfl, h1, h2, by rw [l1.length, l2.length]; exact h.1, newL_run O (l1.append l2) h.2⟩
    · exact h.elim
def dAddR (m : Bool) : DR2 := dEither (dI0 fun i j => .int (i + j)) (dEither dAddS (dEither dAddT (dAddL m)))
theorem opx_add {X : Cx} : OpR X (binaryOp .Add) (fun x y H Q => rI0 (fun i j => .int (i + j)) x y H Q ∨ ((∃ i j, x = .str i ∧ y = .str j ∧ i.length + j.length ≤ sizeLine ∧ Q (.str (i ++ j)) H) ∨ (rCatA X.K x y H Q ∨ rCat x y H Q))) := op_add.or (op_add_str.or (op_catA.or op_cat))
theorem lrx_add (m : Bool) : LR K (fun x y H Q => rI0 (fun i j => .int (i + j)) x y H Q ∨ ((∃ i j, x = .str i ∧ y = .str j ∧ i.length + j.length ≤ sizeLine ∧ Q (.str (i ++ j)) H) ∨ (rCatA K x y H Q ∨ rCat x y H Q))) (dAddR m) :=
  (lr_I0 fun _ _ _ => .int).or (lr_addS.or (lr_addT.or (lr_addL m)))
/-- a list * an int -/
def dRep (m : Bool) : DR2 := fun x y M Q => match lview M x, y with
  | some xs, .int k => -(2 ^ 63) ≤ k ∧ k < 2 ^ 63 ∧ xs.length * k.toNat ≤ sizeLine ∧ newL m (List.replicate k.toNat xs).flatten M Q
  | _, _ => False
theorem RepL.rep {H : Hp} {vs : List V} {xs : List Dt} (r : RepL K H vs xs) : ∀ n : Nat, RepL K H (List.replicate n vs).flatten (List.replicate n xs).flatten
  | 0 => .nil
  | n + 1 => by
    rw [List.replicate_succ, List.replicate_succ, List.flatten_cons, List.flatten_cons]
    exact r.append (RepL.rep r n)
end
end DL
set_option Elab.async false
set_option linter.all false
set_option maxRecDepth 100000
set_option maxHeartbeats 4000000
/-! D layer, part D: more operators, comparisons, subscripts, slices. -/
namespace DL
open PySem PySem.Spec PyProof.Rows L2
section
variable {K : PySem.W.Frag}
theorem lr_rep (m : Bool) : LR K rRep (dRep m) := by
  refine ⟨fun {x y M Q Q'} hq h => ?_, fun {F Hb H M x y v w Q} O rx ry h => ?_⟩
  · unfold dRep at h ⊢
    split at h
    · exact ⟨h.1, h.2.1, h.2.2.1, newL_mono hq h.2.2.2⟩
    · exact h.elim
  · unfold dRep at h
    split at h
    · rename_i xs k e1
      obtain ⟨a, vs, rfl, h1, l1⟩ := lview_run O rx e1
      cases ry
      exact ⟨_, _, _, rfl, rfl, h1, h.1, h.2.1, by rw [l1.length]; exact h.2.2.1, newL_run O (l1.rep _) h.2.2.2⟩
    · exact h.elim
/-- ints: one of them small, or both not too large -/
def CM (i j : Int) : Prop := CMul i j ∨ CMulW i j
theorem opx_mulI {X : Cx} : OpR X (binaryOp .Mult) (rI CM fun i j => .int (i * j)) := by
  intro pins s σ H x y v u Q I rx ry h
  obtain ⟨i, j, e1, e2, c, q⟩ := h
  rcases c with c | c
  · exact op_mul pins s σ H x y v u Q I rx ry ⟨i, j, e1, e2, c, q⟩
  · exact op_mulW pins s σ H x y v u Q I rx ry ⟨i, j, e1, e2, c, q⟩
def dMulR (m : Bool) : DR2 := dEither (dI CM fun i j => .int (i * j)) (dRep m)
theorem opx_mul {X : Cx} : OpR X (binaryOp .Mult) (fun x y H Q => rI CM (fun i j => .int (i * j)) x y H Q ∨ rRep x y H Q) := opx_mulI.or op_rep
theorem lrx_mul (m : Bool) : LR K (fun x y H Q => rI CM (fun i j => .int (i * j)) x y H Q ∨ rRep x y H Q) (dMulR m) := (lr_I fun _ _ _ => .int).or (lr_rep m)
def dSubR : DR2 := dI0 fun i j => .int (i - j)
theorem lrx_sub : LR K (rI0 fun i j => .int (i - j)) dSubR := lr_I0 fun _ _ _ => .int
def dDivR : DR2 := dI CDivW fun i j => .int (i / j)
theorem lrx_div : LR K (rI CDivW fun i j => .int (i / j)) dDivR := lr_I fun _ _ _ => .int
def dModR : DR2 := dI (fun _ j => 0 < j) fun i j => .int (i % j)
theorem lrx_mod : LR K (rI (fun _ j => 0 < j) fun i j => .int (i % j)) dModR := lr_I fun _ _ _ => .int
def dPowR : DR2 := dI CPow fun i j => .int (i ^ j.toNat)
theorem lrx_pow : LR K (rI CPow fun i j => .int (i ^ j.toNat)) dPowR := lr_I fun _ _ _ => .int
/-- comparisons of ints, of texts -/
def dCmpI (p : Int → Int → Bool) : DR2 := dI0 fun i j => .bl (p i j)
theorem lr_cmpI (p : Int → Int → Bool) : LR K (rI0 fun i j => .bl (p i j)) (dCmpI p) := lr_I0 fun _ _ _ => .bl
abbrev dLtR : DR2 := dCmpI fun i j => decide (i < j)
abbrev dLeR : DR2 := dCmpI fun i j => decide (i ≤ j)
abbrev dGtR : DR2 := dCmpI fun i j => decide (j < i)
abbrev dGeR : DR2 := dCmpI fun i j => decide (j ≤ i)
/-! data as the library's == takes it -/
mutual
def toPy (M : Mm) : Dt → Option PyData
  | .non => some .none
  | .bl b => some (.bool b)
  | .int i => some (.int i)
  | .str x => some (.str x)
  | .tup xs => (toPyL M xs).map .tuple
  | .lst xs => (toPyL M xs).map .list
  | .ro xs => (toPyL M xs).map .list
  | .dic _ => none
  | .obj _ _ => none
  | .cel _ => none
def toPyL (M : Mm) : List Dt → Option (List PyData)
  | [] => some []
  | x :: xs => match toPy M x, toPyL M xs with
    | some d, some ds => some (d :: ds)
    | _, _ => none
end
theorem toPyL_cons {M : Mm} {x : Dt} {xs : List Dt} {l : List PyData} (h : toPyL M (x :: xs) = some l) : ∃ d ds, toPy M x = some d ∧ toPyL M xs = some ds ∧ l = d :: ds := by
  unfold toPyL at h
  split at h
  · cases h; exact ⟨_, _, by assumption, by assumption, rfl⟩
  · cases h
mutual
theorem dp_of {F : Fo} {Hb H : Hp} {M : Mm} (O : Own K F M Hb H) : ∀ {v : V} {x : Dt}, Rep K Hb v x → ∀ {d : PyData}, toPy M x = some d → Dp K H v d
  | _, _, .non, d, e => by cases e; exact .non
  | _, _, .bl, d, e => by cases e; exact .bl _
  | _, _, .int, d, e => by cases e; exact .int _
  | _, _, .str, d, e => by cases e; exact .str _
  | _, _, .tup h l, d, e => by
    obtain ⟨ds, e1, e2⟩ := Option.map_eq_some_iff.mp (show (toPyL M _).map PyData.tuple = some d from e)
    cases e2
    exact .tup (SqT.up O.same h) (dpL_of O l e1)
  | _, _, .lst h l, d, e => by
    obtain ⟨ds, e1, e2⟩ := Option.map_eq_some_iff.mp (show (toPyL M _).map PyData.list = some d from e)
    cases e2
    exact .lst (SqL.of (O.same _ _ h)) (dpL_of O l e1)
  | _, _, .ro h l, d, e => by
    obtain ⟨ds, e1, e2⟩ := Option.map_eq_some_iff.mp (show (toPyL M _).map PyData.list = some d from e)
    cases e2
    exact .lst (SqL.up O.same h) (dpL_of O l e1)
  | _, _, .dic _ _, d, e => by cases e
  | _, _, .obj _ _, d, e => by cases e
  | _, _, .cel, d, e => by cases e
theorem dpL_of {F : Fo} {Hb H : Hp} {M : Mm} (O : Own K F M Hb H) : ∀ {v : List V} {x : List Dt}, RepL K Hb v x → ∀ {d : List PyData}, toPyL M x = some d → DpAll K H v d
  | _, _, .nil, d, e => by cases e; exact .nil
  | _, _, .cons h l, d, e => by
    obtain ⟨d1, ds, e1, e2, e3⟩ := toPyL_cons e
    subst e3
    exact .cons (dp_of O h e1) (dpL_of O l e2)
end
/-- a list that may change, at the top -/
def toPyT (M : Mm) : Dt → Option PyData
  | .cel a => match M a with
    | some (.lst xs) => (toPyL M xs).map .list
    | _ => none
  | x => toPy M x
theorem dpT_of {F : Fo} {Hb H : Hp} {M : Mm} (O : Own K F M Hb H) {v : V} {x : Dt} (r : Rep K Hb v x) {d : PyData} (e : toPyT M x = some d) : Dp K H v d := by
  cases x with
  | cel a =>
    have e' : (match M a with | some (.lst xs) => (toPyL M xs).map PyData.list | _ => none) = some d := e
    cases em : M a with
    | none => rw [em] at e'; cases e'
    | some u =>
      rw [em] at e'
      cases u with
      | lst xs =>
        obtain ⟨ds, e1, e2⟩ := Option.map_eq_some_iff.mp e'
        cases e2
        obtain ⟨b, vs, rfl, h1, h2⟩ := lview_run O r (lview_cel em)
        exact .lst (SqL.of h1) (dpL_of O h2 e1)
      | _ => cases e'
  | _ => exact dp_of O r e
def dEqD : DR2 := fun x y M Q => match toPyT M x, toPyT M y with
  | some d, some e => SeqAt.shaped d = true ∧ SeqAt.shaped e = true ∧ Q (.bl (PyData.eqv d e)) M
  | _, _ => False
def dNeD : DR2 := fun x y M Q => match toPyT M x, toPyT M y with
  | some d, some e => SeqAt.shaped d = true ∧ SeqAt.shaped e = true ∧ Q (.bl (!PyData.eqv d e)) M
  | _, _ => False
theorem lr_eqD : LR K (rEqD K) dEqD := by
  refine ⟨fun {x y M Q Q'} hq h => ?_, fun {F Hb H M x y v w Q} O rx ry h => ?_⟩
  · unfold dEqD at h ⊢
    split at h
    · exact ⟨h.1, h.2.1, hq _ _ h.2.2⟩
    · exact h.elim
  · unfold dEqD at h
    split at h
    · rename_i d e e1 e2
      exact ⟨d, e, dpT_of O rx e1, dpT_of O ry e2, h.1, h.2.1, h.2.2 _ _ _ (Same.refl _) O .bl⟩
    · exact h.elim
theorem lr_neD : LR K (rNeD K) dNeD := by
  refine ⟨fun {x y M Q Q'} hq h => ?_, fun {F Hb H M x y v w Q} O rx ry h => ?_⟩
  · unfold dNeD at h ⊢
    split at h
    · exact ⟨h.1, h.2.1, hq _ _ h.2.2⟩
    · exact h.elim
  · unfold dNeD at h
    split at h
    · rename_i d e e1 e2
      exact ⟨d, e, dpT_of O rx e1, dpT_of O ry e2, h.1, h.2.1, h.2.2 _ _ _ (Same.refl _) O .bl⟩
    · exact h.elim
/-- == of scalars -/
def scalD : Dt → Dt → Option Bool
  | .int i, .int j => some (decide (i = j))
  | .str i, .str j => some (decide (i = j))
  | .bl i, .bl j => some (decide (i = j))
  | .non, .non => some true
  | .non, .int _ => some false
  | .int _, .non => some false
  | .non, .bl _ => some false
  | .bl _, .non => some false
  | .non, .str _ => some false
  | .str _, .non => some false
  | .int _, .str _ => some false
  | .str _, .int _ => some false
  | .bl _, .str _ => some false
  | .str _, .bl _ => some false
  | _, _ => none
theorem scal_of {H : Hp} {v w : V} {x y : Dt} {k : Bool} (rx : Rep K H v x) (ry : Rep K H w y) (e : scalD x y = some k) : scal v w = true ∧ decide (v = w) = k := by
  cases rx <;> cases ry <;> first
    | (cases e; done)
    | (cases e; exact ⟨rfl, by simp⟩)
def dEqS : DR2 := fun x y M Q => match scalD x y with
  | some k => Q (.bl k) M
  | none => False
def dNeS : DR2 := fun x y M Q => match scalD x y with
  | some k => Q (.bl (!k)) M
  | none => False
theorem lr_eqS : LR K rEq dEqS := by
  refine ⟨fun {x y M Q Q'} hq h => ?_, fun {F Hb H M x y v w Q} O rx ry h => ?_⟩
  · unfold dEqS at h ⊢
    split at h
    · exact hq _ _ h
    · exact h.elim
  · unfold dEqS at h
    split at h
    · rename_i k e
      obtain ⟨h1, h2⟩ := scal_of rx ry e
      exact ⟨h1, by rw [h2]; exact h _ _ _ (Same.refl _) O .bl⟩
    · exact h.elim
theorem lr_neS : LR K rNe dNeS := by
  refine ⟨fun {x y M Q Q'} hq h => ?_, fun {F Hb H M x y v w Q} O rx ry h => ?_⟩
  · unfold dNeS at h ⊢
    split at h
    · exact hq _ _ h
    · exact h.elim
  · unfold dNeS at h
    split at h
    · rename_i k e
      obtain ⟨h1, h2⟩ := scal_of rx ry e
      exact ⟨h1, by rw [h2]; exact h _ _ _ (Same.refl _) O .bl⟩
    · exact h.elim
def dEqR : DR2 := dEither dEqS dEqD
def dNeR : DR2 := dEither dNeS dNeD
theorem opx_eq {X : Cx} (hu : X.A.units + 64 < cLine) : OpR X (compareOp .Eq) (fun x y H Q => rEq x y H Q ∨ rEqD X.K x y H Q) := op_eq.or (op_eqD hu)
theorem opx_ne {X : Cx} (hu : X.A.units + 64 < cLine) : OpR X (compareOp .NotEq) (fun x y H Q => rNe x y H Q ∨ rNeD X.K x y H Q) := op_ne.or (op_neD hu)
theorem lrx_eq : LR K (fun x y H Q => rEq x y H Q ∨ rEqD K x y H Q) dEqR := lr_eqS.or lr_eqD
theorem lrx_ne : LR K (fun x y H Q => rNe x y H Q ∨ rNeD K x y H Q) dNeR := lr_neS.or lr_neD
/-- is None -/
def isNon : Dt → Bool
  | .non => true
  | _ => false
def dIsN : DR2 := fun x y M Q => match y with
  | .non => Q (.bl (isNon x)) M
  | _ => False
def dNotN : DR2 := fun x y M Q => match y with
  | .non => Q (.bl (!isNon x)) M
  | _ => False
theorem isNon_of {H : Hp} {v : V} {x : Dt} (r : Rep K H v x) : decide (v = .non) = isNon x := by
  cases r <;> simp [isNon]
theorem lr_isN : LR K (fun x y H Q => y = .non ∧ Q (.bl (decide (x = .non))) H) dIsN := by
  refine ⟨fun {x y M Q Q'} hq h => ?_, fun {F Hb H M x y v w Q} O rx ry h => ?_⟩
  · cases y <;> first | exact h.elim | exact hq _ _ h
  · cases ry with
    | non => exact ⟨rfl, by rw [isNon_of rx]; exact h _ _ _ (Same.refl _) O .bl⟩
    | _ => exact h.elim
theorem lr_notN : LR K (fun x y H Q => y = .non ∧ Q (.bl (!decide (x = .non))) H) dNotN := by
  refine ⟨fun {x y M Q Q'} hq h => ?_, fun {F Hb H M x y v w Q} O rx ry h => ?_⟩
  · cases y <;> first | exact h.elim | exact hq _ _ h
  · cases ry with
    | non => exact ⟨rfl, by rw [isNon_of rx]; exact h _ _ _ (Same.refl _) O .bl⟩
    | _ => exact h.elim
/-- one sign in a text -/
def dInS (f : Bool → Bool) : DR2 := fun x y M Q => match x, y with
  | .str a, .str z => ∃ c : Nat, a = ⟨#[c]⟩ ∧ Q (.bl (f (decide (c ∈ z.cps.toList)))) M
  | _, _ => False
theorem lr_inS : LR K (fun x y H Q => ∃ (c : Nat) (z : Str), x = .str ⟨#[c]⟩ ∧ y = .str z ∧ Q (.bl (decide (c ∈ z.cps.toList))) H) (dInS id) := by
  refine ⟨fun {x y M Q Q'} hq h => ?_, fun {F Hb H M x y v w Q} O rx ry h => ?_⟩
  · unfold dInS at h ⊢
    split at h
    · obtain ⟨c, e, q⟩ := h; exact ⟨c, e, hq _ _ q⟩
    · exact h.elim
  · unfold dInS at h
    split at h
    · obtain ⟨c, e, q⟩ := h
      subst e
      cases rx; cases ry
      exact ⟨c, _, rfl, rfl, q _ _ _ (Same.refl _) O .bl⟩
    · exact h.elim
theorem lr_notInS : LR K (fun x y H Q => ∃ (c : Nat) (z : Str), x = .str ⟨#[c]⟩ ∧ y = .str z ∧ Q (.bl (!decide (c ∈ z.cps.toList))) H) (dInS not) := by
  refine ⟨fun {x y M Q Q'} hq h => ?_, fun {F Hb H M x y v w Q} O rx ry h => ?_⟩
  · unfold dInS at h ⊢
    split at h
    · obtain ⟨c, e, q⟩ := h; exact ⟨c, e, hq _ _ q⟩
    · exact h.elim
  · unfold dInS at h
    split at h
    · obtain ⟨c, e, q⟩ := h
      subst e
      cases rx; cases ry
      exact ⟨c, _, rfl, rfl, q _ _ _ (Same.refl _) O .bl⟩
    · exact h.elim
/-! ### subscripts -/
def dIxL : DR2 := fun x y M Q => match rview M x, y with
  | some xs, .int i => (match atI xs i with
    | some d => Q d M
    | none => False)
  | _, _ => False
def dIxT : DR2 := fun x y M Q => match x, y with
  | .tup xs, .int i => (match atI xs i with
    | some d => Q d M
    | none => False)
  | _, _ => False
def dIxS : DR2 := fun x y M Q => match x, y with
  | .str z, .int i => (match atI z.cps.toList i with
    | some c => z.length ≤ sizeLine ∧ Q (.str ⟨#[c]⟩) M
    | none => False)
  | _, _ => False
theorem atI_rep {H : Hp} {vs : List V} {xs : List Dt} {i : Int} {d : Dt} (r : RepL K H vs xs) (e : atI xs i = some d) : ∃ v, atI vs i = some v ∧ Rep K H v d := by
  unfold atI at e ⊢
  rw [r.length]
  cases q : ixN xs.length i with
  | none => rw [q] at e; cases e
  | some j =>
    rw [q] at e
    exact r.get (i := j) e
theorem lr_ixL : LR K (rIxL K) dIxL := by
  refine ⟨fun {x y M Q Q'} hq h => ?_, fun {F Hb H M x y v w Q} O rx ry h => ?_⟩
  · unfold dIxL at h ⊢
    split at h
    · split at h
      · exact hq _ _ h
      · exact h.elim
    · exact h.elim
  · unfold dIxL at h
    split at h
    · rename_i xs i e1
      split at h
      · rename_i d e2
        obtain ⟨a, vs, rfl, h1, h2⟩ := rview_run O rx e1
        obtain ⟨u, h3, h4⟩ := atI_rep h2 e2
        cases ry
        exact ⟨_, _, _, _, rfl, rfl, h1, h3, h _ _ _ (Same.refl _) O h4⟩
      · exact h.elim
    · exact h.elim
theorem lr_ixT : LR K (rIxT K) dIxT := by
  refine ⟨fun {x y M Q Q'} hq h => ?_, fun {F Hb H M x y v w Q} O rx ry h => ?_⟩
  · unfold dIxT at h ⊢
    split at h
    · split at h
      · exact hq _ _ h
      · exact h.elim
    · exact h.elim
  · unfold dIxT at h
    split at h
    · rename_i xs i
      split at h
      · rename_i d e2
        cases rx with
        | tup h1 h2 =>
        obtain ⟨u, h3, h4⟩ := atI_rep h2 e2
        cases ry
        exact ⟨_, _, _, _, rfl, rfl, SqT.up O.same h1, h3, h _ _ _ (Same.refl _) O h4⟩
      · exact h.elim
    · exact h.elim
theorem lr_ixS : LR K rIxS dIxS := by
  refine ⟨fun {x y M Q Q'} hq h => ?_, fun {F Hb H M x y v w Q} O rx ry h => ?_⟩
  · unfold dIxS at h ⊢
    split at h
    · split at h
      · exact ⟨h.1, hq _ _ h.2⟩
      · exact h.elim
    · exact h.elim
  · unfold dIxS at h
    split at h
    · split at h
      · rename_i c e2
        cases rx; cases ry
        exact ⟨_, _, c, rfl, rfl, h.1, e2, h.2 _ _ _ (Same.refl _) O .str⟩
      · exact h.elim
    · exact h.elim
def dIx : DR2 := dEither dIxL (dEither dIxT dIxS)
theorem lr_ix : LR K (rIx K) dIx := lr_ixL.or (lr_ixT.or lr_ixS)
end
section
variable {X : Cx} {G : Lk} {a b : Expr} {da db : DTE} {pos p2 : Pos}
theorem de_ix (ha : DE X G a da) (hb : DE X G b db) (hs : PlainIx b := by exact fun _ _ => rfl) : DE X G (.Subscript a b pos) (dOp dIx da db) := by
  obtain ⟨ta, pa, la⟩ := ha
  obtain ⟨tb, pb, lb⟩ := hb
  exact ⟨_, pe_ix ix_seq pa pb hs, le_op la lb lr_ix⟩
/-! ### slices -/
abbrev DTO := DSt → Mm → (Option Int → Mm → Prop) → Prop
structure LO (K : PySem.W.Frag) (G : Lk) (te : TO) (d : DTO) : Prop where
  mono : ∀ {ds : DSt} {M : Mm} {Q Q' : Option Int → Mm → Prop}, (∀ x M', Q x M' → Q' x M') → d ds M Q → d ds M Q'
  run : ∀ {F : Fo} {σ : St} {ds : DSt} {Hb H : Hp} {M : Mm} {Q : Option Int → Hp → Prop}, G.g F Hb → Own K F M Hb H → SRep K Hb σ ds → d ds M (fun o M' => ∀ Hb' H', Same Hb Hb' → Own K F M' Hb' H' → Q o H') → te σ H Q
def DO (X : Cx) (G : Lk) (e : Option Expr) (d : DTO) : Prop := ∃ t, PO X e t ∧ LO X.K G t d
def dNoPart : DTO := fun _ M Q => Q none M
def dPart (t : DTE) : DTO := fun ds M Q => t ds M fun x M1 => match x with
  | .int i => Q (some i) M1
  | _ => False
theorem do_none : DO X G none dNoPart := ⟨_, po_none, ⟨fun hq h => hq _ _ h, fun g O S h => h _ _ (Same.refl _) O⟩⟩
theorem do_some {e : Expr} {d : DTE} (h : DE X G e d) : DO X G (some e) (dPart d) := by
  obtain ⟨t, p, l⟩ := h
  refine ⟨_, po_some p, ⟨fun hq h => l.mono (fun x M1 h1 => ?_) h, fun {F σ ds Hb H M Q} g O S h => ?_⟩⟩
  · cases x <;> first | exact h1.elim | exact hq _ _ h1
  · refine l.run g O S (l.mono (fun x M1 h1 v Hb1 H1 s1 O1 r1 => ?_) h)
    cases r1 with
    | int => exact ⟨_, rfl, h1 _ _ s1 O1⟩
    | _ => exact h1.elim
def cutD (xs : List Dt) (lo hi : Option Int) : List Dt := (xs.drop (HT.sIx xs.length 0 lo)).take (HT.sIx xs.length xs.length hi - HT.sIx xs.length 0 lo)
def dCut (m : Bool) (x : Dt) (lo hi : Option Int) (M : Mm) (Q : DQ) : Prop := match x with
  | .str z => z.length ≤ sizeLine ∧ Q (.str (cutS z lo hi)) M
  | .tup xs => Q (.tup (cutD xs lo hi)) M
  | x => match rview M x with
    | some xs => newL m (cutD xs lo hi) M Q
    | none => False
def rCut (K : PySem.W.Frag) : V → Option Int → Option Int → Hp → VK → Prop := fun x lo hi H Q => rSlS x lo hi H Q ∨ (rSlA K x lo hi H Q ∨ rSlL K x lo hi H Q)
theorem sl_cut : SlR X (rCut X.K) := sl_str.or (sl_tupA.or sl_list)
theorem cutD_rep {K : PySem.W.Frag} {H : Hp} {vs : List V} {xs : List Dt} {lo hi : Option Int} (r : RepL K H vs xs) : RepL K H (cutV vs lo hi) (cutD xs lo hi) := by
  unfold cutV cutD
  rw [r.length]
  exact (r.drop _).take _
theorem cutD_whole {xs : List Dt} {lo hi : Option Int} (h : HT.sIx xs.length 0 lo = 0 ∧ HT.sIx xs.length xs.length hi = xs.length) : cutD xs lo hi = xs := by
  unfold cutD
  rw [h.1, h.2]
  simp
theorem cut_mono {m : Bool} {x : Dt} {lo hi : Option Int} {M : Mm} {Q Q' : DQ} (hq : ∀ z M', Q z M' → Q' z M') (h : dCut m x lo hi M Q) : dCut m x lo hi M Q' := by
  unfold dCut at h ⊢
  split at h
  · exact ⟨h.1, hq _ _ h.2⟩
  · exact hq _ _ h
  · split at h
    · exact newL_mono hq h
    · exact h.elim
theorem cut_run {K : PySem.W.Frag} {F : Fo} {Hb H : Hp} {M : Mm} {m : Bool} {v : V} {x : Dt} {lo hi : Option Int} {Q : VK} (O : Own K F M Hb H) (r : Rep K Hb v x) (h : dCut m x lo hi M (Cl K F Hb Q)) : rCut K v lo hi H Q := by
  unfold dCut at h
  split at h
  · cases r
    exact .inl ⟨_, rfl, h.1, h.2 _ _ _ (Same.refl _) O .str⟩
  · cases r with
    | tup h1 h2 =>
    refine .inr (.inl ⟨_, _, rfl, SqT.up O.same h1, fun w => ?_, fun _ => tup_run O (cutD_rep h2) h⟩)
    rw [h2.length] at w
    rw [cutD_whole w] at h
    exact h _ _ _ (Same.refl _) O (.tup h1 h2)
  · split at h
    · rename_i xs e
      obtain ⟨a, vs, rfl, h1, h2⟩ := rview_run O r e
      exact .inr (.inr ⟨_, _, rfl, h1, newL_run O (cutD_rep h2) h⟩)
    · exact h.elim
def dSl (m : Bool) (t : DTE) (l u : DTO) : DTE := fun ds M Q => t ds M fun x M1 => l ds M1 fun lo M2 => u ds M2 fun hi M3 => dCut m x lo hi M3 Q
theorem de_slice (m : Bool) {lo hi : Option Expr} {l u : DTO} (ha : DE X G a da) (hl : DO X G lo l) (hh : DO X G hi u) : DE X G (.Subscript a (.Slice lo hi none p2) pos) (dSl m da l u) := by
  obtain ⟨ta, pa, la⟩ := ha
  obtain ⟨tl, pl, ll⟩ := hl
  obtain ⟨th, ph, lh⟩ := hh
  refine ⟨_, pe_slice sl_cut pa pl ph, ⟨fun hq h => la.mono (fun x M1 h1 => ll.mono (fun _ _ h2 => lh.mono (fun _ _ h3 => cut_mono hq h3) h2) h1) h, fun {F σ ds Hb H M Q} g O S h => ?_⟩⟩
  refine la.run g O S (la.mono (fun x M1 h1 v Hb1 H1 s1 O1 r1 => ?_) h)
  refine ll.run (G.up g s1) O1 (S.up s1) (ll.mono (fun o M2 h2 Hb2 H2 s2 O2 => ?_) h1)
  refine lh.run (G.up g (s1.trans s2)) O2 (S.up (s1.trans s2)) (lh.mono (fun o' M3 h3 Hb3 H3 s3 O3 => ?_) h2)
  exact cut_run O3 (r1.up (s2.trans s3)) (cut_mono (fun _ _ z => Cl.up ((s1.trans s2).trans s3) z) h3)
end
end DL
set_option Elab.async false
set_option linter.all false
set_option maxRecDepth 100000
set_option maxHeartbeats 4000000
/-! D layer, part F: attributes, calls of defs, promises over data, built-in calls. -/
namespace DL
open PySem PySem.Spec PyProof.Rows L2

/-! ### objects -/
def objView (M : Mm) : Dt → Option (Str × List (Str × Dt))
  | .obj c fs => some (c, fs)
  | .cel a => match M a with
    | some (.obj c fs) => some (c, fs)
    | _ => none
  | _ => none
@[simp] theorem objView_obj {M : Mm} {c : Str} {fs : List (Str × Dt)} : objView M (.obj c fs) = some (c, fs) := rfl
theorem objView_cel {M : Mm} {a : Addr} {c : Str} {fs : List (Str × Dt)} (h : M a = some (.obj c fs)) : objView M (.cel a) = some (c, fs) := by
  show (match M a with | some (.obj c fs) => some (c, fs) | _ => none) = _
  rw [h]
section
variable {K : PySem.W.Frag} {F : Fo} {Hb H : Hp} {M : Mm} {v : V} {x : Dt} {c : Str} {fs : List (Str × Dt)}
theorem objView_run (O : Own K F M Hb H) (r : Rep K Hb v x) (h : objView M x = some (c, fs)) : ∃ a dx gs, v = .ref a ∧ H a = some (.ins (He.ga K c) dx gs) ∧ RepF K Hb gs fs := by
  cases r with
  | obj h1 h2 =>
    cases h
    exact ⟨_, _, _, rfl, O.same _ _ h1, h2⟩
  | cel =>
    rename_i a
    have h' : (match M a with | some (.obj c fs) => some (c, fs) | _ => none) = some (c, fs) := h
    cases e : M a with
    | none => rw [e] at h'; cases h'
    | some d =>
      rw [e] at h'
      have q := (O.mt a d e).1
      cases q with
      | obj q1 q2 =>
        cases h'
        exact ⟨_, _, _, rfl, q1, q2⟩
      | dic _ _ => cases h'
      | lst _ _ => cases h'
  | _ => cases h
theorem RepF.look {f : Str} : ∀ {gs : List (Str × V)} {fs : List (Str × Dt)}, RepF K H gs fs → (∀ d, fs.lookup f = some d → ∃ v, gs.lookup f = some v ∧ Rep K H v d) ∧ (fs.lookup f = none → gs.lookup f = none)
  | _, _, .nil => ⟨fun d e => (by cases e), fun _ => rfl⟩
  | _, _, .cons (k := k) r t => by
    obtain ⟨i1, i2⟩ := RepF.look (f := f) t
    by_cases h : (f == k) = true
    · simp only [List.lookup, h]
      exact ⟨fun d e => (by cases e; exact ⟨_, rfl, r⟩), fun e => (by cases e)⟩
    · have h' : (f == k) = false := by simpa using h
      simp only [List.lookup, h']
      exact ⟨i1, i2⟩
theorem RepF.length : ∀ {gs : List (Str × V)} {fs : List (Str × Dt)}, RepF K H gs fs → gs.length = fs.length
  | _, _, .nil => rfl
  | _, _, .cons _ t => congrArg Nat.succ (RepF.length t)
def putD (f : Str) (v : Dt) : List (Str × Dt) → List (Str × Dt)
  | [] => [(f, v)]
  | (g, x) :: r => if g = f then (g, v) :: r else (g, x) :: putD f v r
theorem RepF.put {f : Str} {y : V} {d : Dt} (ry : Rep K H y d) : ∀ {gs : List (Str × V)} {fs : List (Str × Dt)}, RepF K H gs fs → RepF K H (putF f y gs) (putD f d fs)
  | _, _, .nil => .cons ry .nil
  | _, _, .cons (k := k) (vs := vs) (ds := ds) (v := v) (d := d') r t => by
    show RepF K H (if k = f then (k, y) :: vs else (k, v) :: putF f y vs) (if k = f then (k, d) :: ds else (k, d') :: putD f d ds)
    by_cases h : k = f
    · rw [if_pos h, if_pos h]; exact .cons ry t
    · rw [if_neg h, if_neg h]; exact .cons r (RepF.put ry t)
theorem Own.ext (O : Own K F M Hb H) {p : Addr} {o : HO} (hp : H p = none) : Own K F M Hb (upd H p o) := by
  obtain ⟨f1, f2, f3⟩ := O.free hp
  refine ⟨fun b u e => ?_, fun b u e => ?_, fun a d e => ?_, O.dj, O.tb.new hp⟩
  · rw [upd_ne (ne_of_none e f1)]; exact O.same b u e
  · rw [upd_ne (ne_of_none e f2)]; exact O.fr b u e
  · have ne := O.neM hp e
    obtain ⟨h1, h2, h3⟩ := O.mt a d e
    exact ⟨h1.up (fun o q => by rw [upd_ne ne]; exact q) (Same.refl _), h2, h3⟩
theorem Own.freezeObj (O : Own K F M Hb H) {a : Addr} (e : M a = some (.obj c fs)) : ∃ o, Same Hb (upd Hb a o) ∧ Own K F (mdel M a) (upd Hb a o) H ∧ Rep K (upd Hb a o) (.ref a) (.obj c fs) := by
  obtain ⟨g1, g2, g3⟩ := O.mt a _ e
  cases g1 with
  | obj h l =>
    rename_i dx gs
    have s : Same Hb (upd Hb a (.ins (He.ga K c) dx gs)) := same_new g2
    refine ⟨_, s, ⟨fun b u q => ?_, O.fr, fun b d q => ?_, fun b u q => ?_, O.tb.hb (by intro _ h; cases h)⟩, .obj upd_same (l.up s)⟩
    · by_cases hb : b = a
      · subst hb; rw [upd_same] at q; cases q; exact h
      · rw [upd_ne hb] at q; exact O.same b u q
    · by_cases hb : b = a
      · subst hb; unfold mdel at q; rw [if_pos rfl] at q; cases q
      · rw [mdel_ne hb] at q
        obtain ⟨h1, h2, h3⟩ := O.mt b d q
        exact ⟨h1.up (fun _ z => z) s, by rw [upd_ne hb]; exact h2, h3⟩
    · rw [upd_ne (fun z => by rw [z, g3] at q; cases q)]; exact O.dj b u q
end
/-- e.f, an attribute of an instance of c -/
def dFld (c f : Str) (t : DTE) : DTE := fun ds M Q => t ds M fun x M1 => ∃ fs d, objView M1 x = some (c, fs) ∧ fs.lookup f = some d ∧ Q d M1
section
variable {X : Cx} {G : Lk} {e : Expr} {t : DTE} {pos : Pos}
theorem de_fld {c f : Str} (h : DE X G e t) (cl : Cls X.K (He.ga X.K c)) (na : NoAttr X.K (He.ga X.K c) f) (hb : attributeBase e f X.env (eval e X.env) = eval e X.env := by rfl) : DE X G (.Attribute e f pos) (dFld c f t) := by
  obtain ⟨ta, pa, la⟩ := h
  refine ⟨_, pe_fld pa hb, ⟨fun hq h => la.mono (fun x M1 ⟨fs, d, h1, h2, h3⟩ => ⟨fs, d, h1, h2, hq _ _ h3⟩) h, fun {F σ ds Hb H M Q} g O S h => ?_⟩⟩
  refine la.run g O S (la.mono (fun x M1 ⟨fs, d, h1, h2, h3⟩ v Hb1 H1 s1 O1 r1 => ?_) h)
  obtain ⟨a, dx, gs, e1, e2, r2⟩ := objView_run O1 r1 h1
  obtain ⟨w, e3, r3⟩ := (RepF.look r2).1 d h2
  exact ⟨a, _, dx, gs, w, e1, e2, cl, na, e3, h3 w Hb1 H1 s1 O1 r3⟩
end

/-! ### promises over data -/
def ExcRep (K : PySem.W.Frag) (Hb : Hp) (cls : Value) (dd : Option Addr) (c : Str) (fs : List (Str × Dt)) : Prop :=
  cls = .ref (He.ga K c) ∧ ((dd = none ∧ fs = []) ∨ ∃ d gs, dd = some d ∧ Hb d = some (.xd gs) ∧ RepF K Hb gs fs)
def ClX (K : PySem.W.Frag) (F : Fo) (Hb : Hp) (E : XK) : DX := fun c fs M => ∀ cls dd Hb' H', Same Hb Hb' → Own K F M Hb' H' → ExcRep K Hb' cls dd c fs → E cls dd H'
theorem ClX.up {K : PySem.W.Frag} {F : Fo} {Hb Hb1 : Hp} {E : XK} {c : Str} {fs : List (Str × Dt)} {M : Mm} (s : Same Hb Hb1) (h : ClX K F Hb E c fs M) : ClX K F Hb1 E c fs M := fun cls dd Hb' H' s' => h cls dd Hb' H' (s.trans s')
/-- a def's promise: what its data reading f says -/
def spOf (K : PySem.W.Frag) (f : DSp) : Sp := fun vs H Q E => ∃ (F : Fo) (Hb : Hp) (M : Mm) (xs : List Dt) (QD : DQ) (XD : DX), Own K F M Hb H ∧ RepL K Hb vs xs ∧ f xs M QD XD ∧ (∀ x M', QD x M' → Cl K F Hb Q x M') ∧ ∀ c fs M', XD c fs M' → ClX K F Hb E c fs M'
/-- what is wanted may be weakened -/
def upQ (f : DSp) : DSp := fun xs M Q X => ∃ Q0 : DQ, (∀ x M', Q0 x M' → Q x M') ∧ f xs M Q0 X
theorem upQ_go {f : DSp} {xs : List Dt} {M : Mm} {Q : DQ} {X : DX} (h : f xs M Q X) : upQ f xs M Q X := ⟨Q, fun _ _ z => z, h⟩
theorem upQ_mono {f : DSp} {xs : List Dt} {M : Mm} {Q Q' : DQ} {X : DX} (hq : ∀ x M', Q x M' → Q' x M') (h : upQ f xs M Q X) : upQ f xs M Q' X := by
  obtain ⟨Q0, h1, h2⟩ := h
  exact ⟨Q0, fun x M' z => hq _ _ (h1 _ _ z), h2⟩
/-- exceptions of callees: what the context wants of them -/
def Exw (X : Cx) (G : Lk) (XX : DX) : Prop := ∃ E : XK, Passes (L2N.CX X.prog X.w) X E ∧ ∀ F Hb, G.g F Hb → ∀ c fs M, XX c fs M → ClX X.K F Hb E c fs M
abbrev X0 : DX := fun _ _ _ => False
theorem passLN {X : Cx} : Passes (L2N.CX X.prog X.w) X E0 := fun _ _ _ _ _ _ _ h => by
  obtain ⟨_, _, _, _, _, _, _, _, _, _, _, _, z⟩ := h
  exact z.elim
theorem exw0 {X : Cx} {G : Lk} : Exw X G X0 := ⟨E0, passLN, fun _ _ _ _ _ _ h => h.elim⟩
theorem upQ_run {K : PySem.W.Frag} {F : Fo} {Hb Hb1 H1 : Hp} {M : Mm} {f : DSp} {vs : List V} {xs : List Dt} {Q : VK} {E : XK} {XX : DX} (s1 : Same Hb Hb1) (O : Own K F M Hb1 H1) (r : RepL K Hb1 vs xs) (hx : ∀ c fs M, XX c fs M → ClX K F Hb1 E c fs M) (h : upQ f xs M (Cl K F Hb Q) XX) : spOf K f vs H1 Q E := by
  obtain ⟨Q0, h1, h2⟩ := h
  exact ⟨F, Hb1, M, xs, Q0, XX, O, r, h2, fun x M' z => Cl.up s1 (h1 _ _ z), hx⟩

/-- a def that is called by positional values; dd: the defaults that fill up -/
structure DFn (P : Program) (w : World) (K : PySem.W.Frag) (mg : Str → Option Value) (base : Heap) (k : Nat) (fa : Addr) (dd : List Dt) (f : DSp) : Prop where
  kp : PySem.W.keepIn K (.ref fa) = true
  ex : ∃ (fd : FuncData) (ps : List Str) (dvs : List V) (ds : List Value), FnOk P w K mg base (L2N.CX P w) k fa fd ps (spOf K f) ∧ Binds K fd ps ds ∧ Vals dvs ds ∧ ∀ H, RepL K H dvs dd
theorem DFn.mono {P : Program} {w : World} {K : PySem.W.Frag} {mg : Str → Option Value} {base : Heap} {j k : Nat} {fa : Addr} {dd : List Dt} {f : DSp} (F : DFn P w K mg base j fa dd f) (h : j ≤ k) : DFn P w K mg base k fa dd f := by
  obtain ⟨fd, ps, dvs, ds, h1, h2⟩ := F.ex
  exact ⟨F.kp, fd, ps, dvs, ds, h1.mono h, h2⟩
/-- a def that is called with keywords ks behind n positional values -/
structure DFk (P : Program) (w : World) (K : PySem.W.Frag) (mg : Str → Option Value) (base : Heap) (k : Nat) (fa : Addr) (n : Nat) (ks : List Str) (f : DSp) : Prop where
  kp : PySem.W.keepIn K (.ref fa) = true
  ex : ∃ (fd : FuncData) (ps : List Str), FnOk P w K mg base (L2N.CX P w) k fa fd ps (spOf K f) ∧ KBn K fd ps n ks (fun us ws => us ++ ws) (fun us ws => us ++ ws)

def dCall (f : DSp) (dd : List Dt) (XX : DX) (t : DTA) : DTE := fun ds M Q => t ds M fun xs M1 => upQ f (xs ++ dd) M1 Q XX
def dMeth (f : DSp) (XX : DX) (to : DTE) (m c : Str) (t : DTA) : DTE := fun ds M Q => to ds M fun x M1 => (∃ fs, objView M1 x = some (c, fs) ∧ fs.lookup m = none) ∧ t ds M1 fun xs M2 => upQ f (x :: xs) M2 Q XX
def dProp (f : DSp) (c : Str) (t : DTE) : DTE := fun ds M Q => t ds M fun x M1 => (∃ fs, objView M1 x = some (c, fs)) ∧ upQ f [x] M1 Q X0
def dCallK (f : DSp) (n m : Nat) (XX : DX) (t u : DTA) : DTE := fun ds M Q => t ds M fun xs M1 => u ds M1 fun zs M2 => xs.length = n ∧ zs.length = m ∧ upQ f (xs ++ zs) M2 Q XX
/-- C(..); m: the new object may change later on -/
def dMake (m : Bool) (c : Str) (f : DSp) (XX : DX) (t : DTA) : DTE := fun ds M Q => t ds M fun xs M1 => ∀ a, M1 a = none →
  upQ f (.cel a :: xs) (mput M1 a (.obj c [])) (fun r M2 => r = .non ∧ match m with
    | true => Q (.cel a) M2
    | false => ∃ fs, M2 a = some (.obj c fs) ∧ Q (.obj c fs) (mdel M2 a)) XX
section
variable {X : Cx} {G : Lk} {x m : Str} {p pos apos : Pos} {e o : Expr} {es : List Expr} {t : DTA} {to : DTE} {f : DSp} {XX : DX} {k : Nat} {fa : Addr} {dd : List Dt}
theorem le_call {dvs : List V} {E : XK} {ta : TA} (la : LA X.K G ta t) (rd : ∀ H, RepL X.K H dvs dd) (hx : ∀ F Hb, G.g F Hb → ∀ c fs M, XX c fs M → ClX X.K F Hb E c fs M) : LE X.K G (tCall (spOf X.K f) dvs E ta) (dCall f dd XX t) := by
  refine ⟨fun hq h => la.mono (fun xs M1 h1 => upQ_mono hq h1) h, fun {F σ ds Hb H M Q} g O S h => ?_⟩
  refine la.run g O S (la.mono (fun xs M1 h1 vs Hb1 H1 s1 O1 r1 => ?_) h)
  exact upQ_run s1 O1 (r1.append (rd _)) (hx _ _ (G.up g s1)) h1
theorem de_call (F : DFn X.prog X.w X.K X.mg X.base k fa dd f) (hr : Room k X.A) (hg : Gl X x) (hm : X.mg x = some (.ref fa)) (ex : Exw X G XX) (ha : DA X G (e :: es) t)
    (hdb : (x == ("__debug__" : Str)) = false := by decide) (he : starEach (e :: es) X.env = (false, eval e X.env) :: starEach es X.env := by rfl) (hpl : (backTo pos (starEach es X.env)).any (·.1) = false := by rfl) :
    DE X G (.Call (.Name x p) (e :: es) [] pos) (dCall f dd XX t) := by
  obtain ⟨ta, pa, la⟩ := ha
  obtain ⟨E, hx, hl⟩ := ex
  obtain ⟨fd, ps, dvs, ds, ok, bd, vd, rd⟩ := F.ex
  exact ⟨_, pe_call ok hr hg hm F.kp bd vd hx pa hdb he hpl, le_call la rd hl⟩
theorem de_call0 (F : DFn X.prog X.w X.K X.mg X.base k fa dd f) (hr : Room k X.A) (hg : Gl X x) (hm : X.mg x = some (.ref fa)) (ex : Exw X G XX) (hdb : (x == ("__debug__" : Str)) = false := by decide) :
    DE X G (.Call (.Name x p) [] [] pos) (dCall f dd XX dNil) := by
  obtain ⟨E, hx, hl⟩ := ex
  obtain ⟨fd, ps, dvs, ds, ok, bd, vd, rd⟩ := F.ex
  exact ⟨_, pe_call0 ok hr hg hm F.kp bd vd hx hdb, le_call (ta := tNil) ⟨fun hq h => hq _ _ h, fun g O S h => h [] _ _ (Same.refl _) O .nil⟩ rd hl⟩
theorem de_callK {n : Nat} {ks : List Str} {kws : List Keyword} {u : DTA} {tk : TA} (F : DFk X.prog X.w X.K X.mg X.base k fa n ks f) (hr : Room k X.A) (hg : Gl X x) (hm : X.mg x = some (.ref fa)) (ex : Exw X G XX) (ha : DA X G (e :: es) t)
    (hk : PK X kws tk) (lk : LA X.K G tk u) (hall : (backToKw pos (keywordEach kws X.env)).all (·.1.isSome) = true := by rfl) (hks : (backToKw pos (keywordEach kws X.env)).filterMap (·.1) = ks := by rfl)
    (hdb : (x == ("__debug__" : Str)) = false := by decide) (he : starEach (e :: es) X.env = (false, eval e X.env) :: starEach es X.env := by rfl)
    (hpl : ((backTo pos (starEach (e :: es) X.env)).any (·.1) || (backToKw pos (keywordEach kws X.env)).any (·.1.isNone)) = false := by rfl) :
    DE X G (.Call (.Name x p) (e :: es) kws pos) (dCallK f n ks.length XX t u) := by
  obtain ⟨ta, pa, la⟩ := ha
  obtain ⟨E, hx, hl⟩ := ex
  obtain ⟨fd, ps, ok, bd⟩ := F.ex
  refine ⟨_, pe_callN ok hr hg hm F.kp bd hx pa hk hall hks hdb he hpl, ⟨fun hq h => la.mono (fun xs M1 h1 => lk.mono (fun zs M2 h2 => ⟨h2.1, h2.2.1, upQ_mono hq h2.2.2⟩) h1) h, fun {F σ ds Hb H M Q} g O S h => ?_⟩⟩
  refine la.run g O S (la.mono (fun xs M1 h1 vs Hb1 H1 s1 O1 r1 => ?_) h)
  refine lk.run (G.up g s1) O1 (S.up s1) (lk.mono (fun zs M2 h2 ws Hb2 H2 s2 O2 r2 => ?_) h1)
  exact ⟨by rw [r1.length]; exact h2.1, by rw [r2.length]; exact h2.2.1, upQ_run (s1.trans s2) O2 ((r1.up s2).append r2) (hl _ _ (G.up (G.up g s1) s2)) h2.2.2⟩
theorem RepL.up' {K : PySem.W.Frag} {H H' : Hp} {vs : List V} {xs : List Dt} (h : RepL K H vs xs) (s : Same H H') : RepL K H' vs xs := h.up s
theorem le_meth {c : Str} {ta : TE} {tr : TA} {E : XK} (la : LE X.K G ta to) (lr : LA X.K G tr t) (hx : ∀ F Hb, G.g F Hb → ∀ c fs M, XX c fs M → ClX X.K F Hb E c fs M) :
    LE X.K G (tMeth (He.ga X.K c) m (spOf X.K f) [] E ta tr) (dMeth f XX to m c t) := by
  refine ⟨fun hq h => la.mono (fun x M1 h1 => ⟨h1.1, lr.mono (fun xs M2 h2 => upQ_mono hq h2) h1.2⟩) h, fun {F σ ds Hb H M Q} g O S h => ?_⟩
  refine la.run g O S (la.mono (fun x M1 h1 v Hb1 H1 s1 O1 r1 => ?_) h)
  obtain ⟨⟨fs, e1, e2⟩, h1⟩ := h1
  obtain ⟨a, dx, gs, rfl, e4, r2⟩ := objView_run O1 r1 e1
  refine ⟨a, dx, gs, rfl, e4, (RepF.look r2).2 e2, ?_⟩
  refine lr.run (G.up g s1) O1 (S.up s1) (lr.mono (fun xs M2 h2 vs Hb2 H2 s2 O2 r3 => ?_) h1)
  show spOf X.K f (V.ref a :: (vs ++ [])) H2 Q E
  rw [List.append_nil]
  exact upQ_run (s1.trans s2) O2 (.cons (r1.up s2) r3) (hx _ _ (G.up (G.up g s1) s2)) h2
theorem de_meth {c : Str} {pl : Sem Bool} (F : DFn X.prog X.w X.K X.mg X.base k fa [] f) (ho : DE X G o to) (cl : Cls X.K (He.ga X.K c)) (hm : Meth X.K (He.ga X.K c) m fa) (hr : Room k X.A) (ex : Exw X G XX) (ha : DA X G (e :: es) t)
    (hst : starEach (e :: es) X.env = (false, eval e X.env) :: starEach es X.env := by rfl) (hpl : (backTo pos (starEach es X.env)).any (·.1) = false := by rfl)
    (ht : eval (.Call (.Attribute o m apos) (e :: es) [] pos) X.env = (do
      let ov ← eval o X.env
      standAt apos.atName
      let (f, first) ← holding [ov] (getMethod ov m pl)
      callWith pos f first (backTo pos (starEach (e :: es) X.env)) (backToKw pos (keywordEach [] X.env))) := by rfl) :
    DE X G (.Call (.Attribute o m apos) (e :: es) [] pos) (dMeth f XX to m c t) := by
  obtain ⟨ta, pa, la⟩ := ha
  obtain ⟨tb, pb, lb⟩ := ho
  obtain ⟨E, hx, hl⟩ := ex
  obtain ⟨fd, ps, dvs, ds, ok, bd, vd, rd⟩ := F.ex
  have e1 : dvs = [] := by cases rd (fun _ => none); rfl
  subst e1
  exact ⟨_, pe_meth pb cl hm ok hr bd vd hx pa hst hpl ht, le_meth lb la hl⟩
theorem de_meth0 {c : Str} {pl : Sem Bool} (F : DFn X.prog X.w X.K X.mg X.base k fa [] f) (ho : DE X G o to) (cl : Cls X.K (He.ga X.K c)) (hm : Meth X.K (He.ga X.K c) m fa) (hr : Room k X.A) (ex : Exw X G XX)
    (ht : eval (.Call (.Attribute o m apos) [] [] pos) X.env = (do
      let ov ← eval o X.env
      standAt apos.atName
      let (f, first) ← holding [ov] (getMethod ov m pl)
      callWith pos f first (backTo pos (starEach [] X.env)) (backToKw pos (keywordEach [] X.env))) := by rfl) :
    DE X G (.Call (.Attribute o m apos) [] [] pos) (dMeth f XX to m c dNil) := by
  obtain ⟨tb, pb, lb⟩ := ho
  obtain ⟨E, hx, hl⟩ := ex
  obtain ⟨fd, ps, dvs, ds, ok, bd, vd, rd⟩ := F.ex
  have e1 : dvs = [] := by cases rd (fun _ => none); rfl
  subst e1
  exact ⟨_, pe_meth0 pb cl hm ok hr bd vd hx ht, le_meth (tr := tNil) lb ⟨fun hq h => hq _ _ h, fun g O S h => h [] _ _ (Same.refl _) O .nil⟩ hl⟩
theorem passN {X : Cx} : Passes (L2N.CX X.prog X.w) X.nox E0 := fun _ _ _ _ _ _ _ h => by
  obtain ⟨_, _, _, _, _, _, _, _, _, _, _, _, z⟩ := h
  exact z.elim
theorem de_prop {c g : Str} {pa' : Addr} (F : DFn X.prog X.w X.K X.mg X.base k fa [] f) (ho : DE X G o to) (cl : Cls X.K (He.ga X.K c)) (hp : PropOf X.K (He.ga X.K c) g pa' fa) (hr : Room (k + 1) X.A)
    (hab : attributeBase o g X.env (eval o X.env) = eval o X.env := by rfl) : DE X G (.Attribute o g pos) (dProp f c to) := by
  obtain ⟨tb, pb, lb⟩ := ho
  obtain ⟨fd, ps, dvs, ds, ok, bd, vd, rd⟩ := F.ex
  have e1 : dvs = [] := by cases rd (fun _ => none); rfl
  subst e1
  refine ⟨_, pe_prop pb cl hp ok hr bd vd passN hab, ⟨fun hq h => lb.mono (fun x M1 h1 => ⟨h1.1, upQ_mono hq h1.2⟩) h, fun {F σ ds Hb H M Q} g O S h => ?_⟩⟩
  refine lb.run g O S (lb.mono (fun x M1 h1 v Hb1 H1 s1 O1 r1 => ?_) h)
  obtain ⟨⟨fs, e1⟩, h1⟩ := h1
  obtain ⟨a, dx, gs, rfl, e4, r2⟩ := objView_run O1 r1 e1
  exact ⟨a, dx, gs, rfl, e4, upQ_run s1 O1 (.cons r1 .nil) (fun _ _ _ z => z.elim) h1⟩
/-- one of two readings -/
def dAlt (t u : DTE) : DTE := fun ds M Q => t ds M Q ∨ u ds M Q
theorem de_alt {t u : DTE} (h1 : DE X G e t) (h2 : DE X G e u) : DE X G e (dAlt t u) := by
  obtain ⟨ta, pa, la⟩ := h1
  obtain ⟨tb, pb, lb⟩ := h2
  refine ⟨fun σ H Q => ta σ H Q ∨ tb σ H Q, ⟨fun pins s σ H Q I h => h.elim (pa.run pins s σ H Q I) (pb.run pins s σ H Q I)⟩, ⟨fun hq h => h.imp (la.mono hq) (lb.mono hq), fun g O S h => h.imp (la.run g O S) (lb.run g O S)⟩⟩
theorem de_make (mm : Bool) {c : Str} {fi : Addr} (Mc : Mk X.K (He.ga X.K c) fi) (F : DFn X.prog X.w X.K X.mg X.base k fi [] f) (hr : Room (k + 1) X.A) (hg : Gl X x) (hm : X.mg x = some (.ref (He.ga X.K c))) (ex : Exw X G XX) (ha : DA X G (e :: es) t)
    (hdb : (x == ("__debug__" : Str)) = false := by decide) (he : starEach (e :: es) X.env = (false, eval e X.env) :: starEach es X.env := by rfl) (hpl : (backTo pos (starEach es X.env)).any (·.1) = false := by rfl) :
    DE X G (.Call (.Name x p) (e :: es) [] pos) (dMake mm c f XX t) := by
  obtain ⟨ta, pa, la⟩ := ha
  obtain ⟨E, hx, hl⟩ := ex
  obtain ⟨fd, ps, dvs, ds, ok, bd, vd, rd⟩ := F.ex
  have e1 : dvs = [] := by cases rd (fun _ => none); rfl
  subst e1
  refine ⟨_, pe_make Mc ok hr hg hm bd vd hx pa hdb he hpl, ⟨fun hq h => la.mono (fun xs M1 h1 a ha => upQ_mono (fun r M2 h2 => ⟨h2.1, ?_⟩) (h1 a ha)) h, fun {F σ ds Hb H M Q} g O S h => ?_⟩⟩
  · cases mm
    · obtain ⟨fs, e1, e2⟩ := h2.2; exact ⟨fs, e1, hq _ _ e2⟩
    · exact hq _ _ h2.2
  · refine la.run g O S (la.mono (fun xs M1 h1 vs Hb1 H1 s1 O1 r1 => ?_) h)
    intro y dx hy hdx hne
    have O2 : Own X.K F M1 Hb1 (upd H1 dx (.own y)) := O1.ext hdx
    have hy2 : upd H1 dx (.own y) y = none := by rw [upd_ne hne.symm]; exact hy
    have O3 : Own X.K F (mput M1 y (.obj c [])) Hb1 (upd (upd H1 dx (.own y)) y (.ins (He.ga X.K c) dx [])) := O2.newM hy2 (.obj upd_same .nil)
    obtain ⟨Q0, q1, q2⟩ := h1 y (O2.free hy2).2.2
    refine ⟨F, Hb1, _, _, Q0, XX, O3, by rw [List.append_nil]; exact .cons .cel r1, q2, fun r M2 z v Hb4 H4 s4 O4 r4 => ?_, hl _ _ (G.up g s1)⟩
    obtain ⟨e1, e2⟩ := q1 _ _ z
    subst e1
    cases r4
    refine ⟨rfl, ?_⟩
    cases mm with
    | true => exact e2 _ _ _ (s1.trans s4) O4 .cel
    | false =>
      obtain ⟨fs, e3, e5⟩ := e2
      obtain ⟨o, t1, t2, t3⟩ := O4.freezeObj e3
      exact e5 _ _ _ ((s1.trans s4).trans t1) t2 t3
end
end DL
set_option Elab.async false
set_option linter.all false
set_option maxRecDepth 100000
set_option maxHeartbeats 4000000
/-! D layer, part G: statements, targets, loops. -/
namespace DL
open PySem PySem.Spec PyProof.Rows L2

def dNext : DTS := fun D ds M => D.nx ds M
def dSeq (t u : DTS) : DTS := fun D ds M => t { D with nx := u D } ds M
def dDrop (t : DTE) : DTS := fun D ds M => t ds M fun _ M1 => D.nx ds M1
def dRet (t : DTE) : DTS := fun D ds M => t ds M D.rt
def dRetN : DTS := fun D _ M => D.rt .non M
def dIfS (c : DTT) (t u : DTS) : DTS := fun D ds M => c ds M fun b M1 => if b = true then t D ds M1 else u D ds M1
def dBreak : DTS := fun D ds M => D.bk ds M
def dCont : DTS := fun D ds M => D.ct ds M
def dNever : DTS := fun _ _ _ => False
abbrev DTG := Dt → DSt → Mm → (DSt → Mm → Prop) → Prop
abbrev DTGs := List Dt → DSt → Mm → (DSt → Mm → Prop) → Prop
structure LG (K : PySem.W.Frag) (G : Lk) (t : TG) (d : DTG) : Prop where
  mono : ∀ {x : Dt} {ds : DSt} {M : Mm} {Q Q' : DSt → Mm → Prop}, (∀ a b, Q a b → Q' a b) → d x ds M Q → d x ds M Q'
  run : ∀ {F : Fo} {σ : St} {ds : DSt} {Hb H : Hp} {M : Mm} {v : V} {x : Dt} {Q : St → Hp → Prop}, G.g F Hb → Own K F M Hb H → SRep K Hb σ ds → Rep K Hb v x → d x ds M (ClS K F Hb Q) → t v σ H Q
structure LGs (K : PySem.W.Frag) (G : Lk) (t : TGs) (d : DTGs) : Prop where
  mono : ∀ {x : List Dt} {ds : DSt} {M : Mm} {Q Q' : DSt → Mm → Prop}, (∀ a b, Q a b → Q' a b) → d x ds M Q → d x ds M Q'
  run : ∀ {F : Fo} {σ : St} {ds : DSt} {Hb H : Hp} {M : Mm} {v : List V} {x : List Dt} {Q : St → Hp → Prop}, G.g F Hb → Own K F M Hb H → SRep K Hb σ ds → RepL K Hb v x → d x ds M (ClS K F Hb Q) → t v σ H Q
def DGt (X : Cx) (G : Lk) (e : Expr) (d : DTG) : Prop := ∃ t, PG X e t ∧ LG X.K G t d
def DGts (X : Cx) (G : Lk) (e : List Expr) (d : DTGs) : Prop := ∃ t, PGs X e t ∧ LGs X.K G t d
def dName (i : Nat) : DTG := fun x ds M Q => Q (ds.set i (some x)) M
def dGNil : DTGs := fun xs ds M Q => xs = [] ∧ Q ds M
def dGCons (t : DTG) (u : DTGs) : DTGs := fun xs ds M Q => match xs with
  | x :: r => t x ds M fun ds' M' => u r ds' M' Q
  | [] => False
def dGTup (n : Nat) (t : DTGs) : DTG := fun x ds M Q => match x with
  | .tup xs => xs.length = n ∧ t xs ds M Q
  | _ => False
def dAsg (t : DTE) (g : DTG) : DTS := fun D ds M => t ds M fun x M1 => g x ds M1 D.nx
section
variable {X : Cx} {G : Lk} {st : Stmt} {rest : List Stmt} {t u : DTS} {e : Expr} {te : DTE} {pos : Pos}
theorem ls_next {K : PySem.W.Frag} : LS K G tNext dNext := ⟨fun hd h => hd.nx _ _ h, fun g O S h => h _ _ _ (Same.refl _) O S⟩
theorem ls_seq {K : PySem.W.Frag} {t1 t2 : TS} (l1 : LS K G t1 t) (l2 : LS K G t2 u) : LS K G (tSeq t1 t2) (dSeq t u) := by
  refine ⟨fun {ds M D D'} hd h => l1.mono (D := { D with nx := u D }) ⟨fun ds M q => l2.mono hd q, hd.rt, hd.bk, hd.ct⟩ h, fun {F σ ds Hb H M D} g O S h => ?_⟩
  refine l1.run (D := { D with nx := t2 D }) g O S (l1.mono (D := { ClE K F Hb D with nx := u (ClE K F Hb D) }) ⟨fun ds1 M1 q => ?_, fun _ _ q => q, fun _ _ q => q, fun _ _ q => q⟩ h)
  intro σ1 Hb1 H1 s1 O1 S1
  exact l2.run (G.up g s1) O1 S1 (l2.mono (ClE.up s1) q)
theorem dss_nil : DSs X G [] dNext := ⟨_, pss_nil, ls_next⟩
theorem dss_cons (h : DS X G st t) (k : DSs X G rest u) : DSs X G (st :: rest) (dSeq t u) := by
  obtain ⟨ta, pa, la⟩ := h
  obtain ⟨tb, pb, lb⟩ := k
  exact ⟨_, pss_cons pa pb, ls_seq la lb⟩
theorem dss_one (h : DS X G st t) : DSs X G [st] t := by
  obtain ⟨ta, pa, la⟩ := h
  exact ⟨_, pss_one pa, la⟩
theorem ds_pass : DS X G (.Pass pos) dNext := ⟨_, ps_pass, ls_next⟩
theorem ds_doc {x j pos pos'} : DS X G (.Expr (.Constant (.str x) j pos) pos') dNext := ⟨_, ps_doc, ls_next⟩
theorem ds_break : DS X G (.Break pos) dBreak := ⟨_, ps_break, ⟨fun hd h => hd.bk _ _ h, fun g O S h => h _ _ _ (Same.refl _) O S⟩⟩
theorem ds_continue : DS X G (.Continue pos) dCont := ⟨_, ps_continue, ⟨fun hd h => hd.ct _ _ h, fun g O S h => h _ _ _ (Same.refl _) O S⟩⟩
theorem ds_never : DS X G st dNever := ⟨_, ps_never, ⟨fun hd h => h.elim, fun g O S h => h.elim⟩⟩
theorem dss_never {sts : List Stmt} : DSs X G sts dNever := ⟨_, pss_never, ⟨fun hd h => h.elim, fun g O S h => h.elim⟩⟩
theorem ds_expr (h : DE X G e te) (hs : swapsWith e none pos.line X.env = pure false := by rfl) : DS X G (.Expr e pos) (dDrop te) := by
  obtain ⟨ta, pa, la⟩ := h
  refine ⟨_, ps_expr pa hs, ⟨fun hd h => la.mono (fun x M1 h1 => hd.nx _ _ h1) h, fun {F σ ds Hb H M D} g O S h => la.run g O S (la.mono (fun x M1 h1 v Hb1 H1 s1 O1 r1 => ?_) h)⟩⟩
  exact h1 σ Hb1 H1 s1 O1 (S.up s1)
theorem ds_ret (h : DE X G e te) : DS X G (.Return (some e) pos) (dRet te) := by
  obtain ⟨ta, pa, la⟩ := h
  exact ⟨_, ps_ret pa, ⟨fun hd h => la.mono (fun x M1 h1 => hd.rt _ _ h1) h, fun g O S h => la.run g O S h⟩⟩
theorem ds_retN : DS X G (.Return none pos) dRetN := ⟨_, ps_retN, ⟨fun hd h => hd.rt _ _ h, fun g O S h => h _ _ _ (Same.refl _) O .non⟩⟩
theorem ds_if {c : Expr} {a b : List Stmt} {tc : DTT} (hc : DT X G c tc) (ha : DSs X G a t) (hb : DSs X G b u) : DS X G (.If c a b pos) (dIfS tc t u) := by
  obtain ⟨t1, p1, l1⟩ := hc
  obtain ⟨t2, p2, l2⟩ := ha
  obtain ⟨t3, p3, l3⟩ := hb
  refine ⟨_, ps_if p1 p2 p3, ⟨fun hd h => l1.mono (fun c M1 h1 => ?_) h, fun {F σ ds Hb H M D} g O S h => l1.run g O S (l1.mono (fun c M1 h1 Hb1 H1 s1 O1 => ?_) h)⟩⟩
  · cases c
    · exact l3.mono hd h1
    · exact l2.mono hd h1
  · cases c
    · exact l3.run (G.up g s1) O1 (S.up s1) (l3.mono (ClE.up s1) h1)
    · exact l2.run (G.up g s1) O1 (S.up s1) (l2.mono (ClE.up s1) h1)
/-! targets -/
theorem lg_name {K : PySem.W.Frag} (i : Nat) : LG K G (gName i) (dName i) := ⟨fun hq h => hq _ _ h, fun g O S r h => h _ _ _ (Same.refl _) O (S.set i r)⟩
theorem dg_name {i : Nat} {x : Str} (hN : X.N.Nodup) (hi : X.N[i]? = some x := by rfl) (hx : Loc X.env.scope x := by first | exact Or.inl rfl | exact Or.inr rfl) (hf : X.fn x = true ∨ X.env.scope.names.lookup x = some .local := by first | exact .inl rfl | exact .inr rfl | assumption) : DGt X G (.Name x pos) (dName i) :=
  ⟨_, pg_name hN hi hx hf, lg_name i⟩
theorem dgs_nil : DGts X G [] dGNil := ⟨_, pgs_nil, ⟨fun hq h => ⟨h.1, hq _ _ h.2⟩, fun g O S r h => ⟨(by have e := h.1; subst e; cases r; rfl), h.2 _ _ _ (Same.refl _) O S⟩⟩⟩
theorem dgs_cons {es : List Expr} {d : DTG} {d' : DTGs} (h1 : DGt X G e d) (h2 : DGts X G es d') (hs : (assignEach (e :: es) X.env).map (·.2) = assign e X.env :: (assignEach es X.env).map (·.2) := by rfl) : DGts X G (e :: es) (dGCons d d') := by
  obtain ⟨ta, pa, la⟩ := h1
  obtain ⟨tb, pb, lb⟩ := h2
  refine ⟨_, pgs_cons pa pb hs, ⟨fun {x ds M Q Q'} hq h => ?_, fun {F σ ds Hb H M v x Q} g O S r h => ?_⟩⟩
  · cases x with
    | nil => exact h.elim
    | cons x r => exact la.mono (fun ds' M' q => lb.mono hq q) h
  · cases r with
    | nil => exact h.elim
    | cons r1 r2 =>
      refine ⟨_, _, rfl, la.run g O S r1 (la.mono (fun ds1 M1 h1 σ1 Hb1 H1 s1 O1 S1 => ?_) h)⟩
      exact lb.run (G.up g s1) O1 S1 (r2.up s1) (lb.mono (fun _ _ z => ClS.up s1 z) h1)
theorem dg_tup {es : List Expr} {k : Nat} {d : DTGs} {n : Nat} (hc : X.calm = true) (h : DGts X G es d) (hn : (assignEach es X.env).length = n := by rfl) (hst : (assignEach es X.env).findIdx? (·.1) = none := by rfl) : DGt X G (.Tuple es k pos) (dGTup n d) := by
  obtain ⟨ta, pa, la⟩ := h
  refine ⟨_, pg_tup hc pa hn hst, ⟨fun {x ds M Q Q'} hq h => ?_, fun {F σ ds Hb H M v x Q} g O S r h => ?_⟩⟩
  · cases x <;> first | exact h.elim | exact ⟨h.1, la.mono hq h.2⟩
  · cases r with
    | tup h1 h2 => exact ⟨_, _, rfl, SqT.up O.same h1, by rw [h2.length]; exact h.1, la.run g O S h2 h.2⟩
    | _ => exact h.elim
theorem ls_asg {K : PySem.W.Frag} {ta : TE} {tg : TG} {d : DTG} (la : LE K G ta te) (lg : LG K G tg d) : LS K G (tAsg ta tg) (dAsg te d) := by
  refine ⟨fun hd h => la.mono (fun x M1 h1 => lg.mono hd.nx h1) h, fun {F σ ds Hb H M D} g O S h => la.run g O S (la.mono (fun x M1 h1 v Hb1 H1 s1 O1 r1 => ?_) h)⟩
  exact lg.run (G.up g s1) O1 (S.up s1) r1 (lg.mono (fun _ _ z => ClS.up s1 z) h1)
theorem ds_asg {tg : Expr} {d : DTG} (he : DE X G e te) (hg : DGt X G tg d) (hs : swapsWithSole [tg] e pos.line X.env = pure false := by rfl) (hw : swappedStores [tg] e X.env = pure none := by rfl)
    (h1 : (assignEach [tg] X.env).map (·.2) = [assign tg X.env] := by rfl) : DS X G (.Assign [tg] e pos) (dAsg te d) := by
  obtain ⟨ta, pa, la⟩ := he
  obtain ⟨tb, pb, lb⟩ := hg
  exact ⟨_, ps_asg pa pb hs hw h1, ls_asg la lb⟩
theorem ds_set {i : Nat} {x : Str} {pos' : Pos} (hN : X.N.Nodup) (he : DE X G e te) (hi : X.N[i]? = some x := by rfl) (hx : Loc X.env.scope x := by first | exact Or.inl rfl | exact Or.inr rfl)
    (hs : swapsWith e (some (.Name x pos')) pos.line X.env = pure false := by rfl) (hf : X.fn x = true ∨ X.env.scope.names.lookup x = some .local := by first | exact .inl rfl | exact .inr rfl | assumption) :
    DS X G (.Assign [.Name x pos'] e pos) (dAsg te (dName i)) := by
  obtain ⟨ta, pa, la⟩ := he
  exact ⟨_, ps_set hN hi hx pa hs hf, ls_asg la (lg_name i)⟩
/-- a, b = x, y -/
def dPar (i j : Nat) (t : DTA) : DTS := fun D ds M => t ds M fun vs M1 => match vs with
  | [v, w] => D.nx ((ds.set i (some v)).set j (some w)) M1
  | _ => False
theorem ds_par {i j : Nat} {x y : Str} {a b : Expr} {ta : DTA} {px py pt : Pos} {kt k2 : Nat} {pt2 : Pos} (hc : X.calm = true) (hN : X.N.Nodup) (ha : DA X G [a, b] ta) (hi : X.N[i]? = some x := by rfl) (hj : X.N[j]? = some y := by rfl) (hij : i ≠ j := by decide)
    (hx : X.env.scope.names.lookup x = some .local := by rfl) (hy : X.env.scope.names.lookup y = some .local := by rfl)
    (ps : ∀ {t : TA}, PA X [a, b] t → PS X (.Assign [.Tuple [.Name x px, .Name y py] kt pt] (.Tuple [a, b] k2 pt2) pos) (tPar i j t)) : DS X G (.Assign [.Tuple [.Name x px, .Name y py] kt pt] (.Tuple [a, b] k2 pt2) pos) (dPar i j ta) := by
  obtain ⟨t1, p1, l1⟩ := ha
  refine ⟨_, ps p1, ⟨fun {ds M D D'} hd h => l1.mono (fun vs M1 h1 => ?_) h, fun {F σ ds Hb H M D} g O S h => l1.run g O S (l1.mono (fun vs M1 h1 ws Hb1 H1 s1 O1 r1 => ?_) h)⟩⟩
  · split at h1
    · exact hd.nx _ _ h1
    · exact h1.elim
  · split at h1
    · cases r1 with
      | cons r2 r3 =>
      cases r3 with
      | cons r4 r5 =>
      cases r5
      exact ⟨_, _, rfl, h1 _ _ _ s1 O1 (((S.up s1).set i r2).set j r4)⟩
    · exact h1.elim
end

/-! ### while -/
def dWhileN (c : DTT) (b : DTS) (D : DEnds) : Nat → DSt → Mm → Prop
  | 0, _, _ => False
  | n + 1, ds, M => c ds M fun k M1 => if k = true then b { D with nx := dWhileN c b D n, ct := dWhileN c b D n, bk := D.nx } ds M1 else D.nx ds M1
def dWhile (c : DTT) (b : DTS) : DTS := fun D ds M => ∃ n, dWhileN c b D n ds M
section
variable {X : Cx} {G : Lk} {pos : Pos}
theorem ls_while {K : PySem.W.Frag} {tc : TT} {tb : TS} {c : DTT} {b : DTS} (lc : LT K G tc c) (lb : LS K G tb b) : LS K G (tWhile tc tb) (dWhile c b) := by
  refine ⟨fun {ds M D D'} hd h => ?_, fun {F σ ds Hb H M D} g O S h => ?_⟩
  · obtain ⟨n, h⟩ := h
    refine ⟨n, ?_⟩
    have key : ∀ (n : Nat) (ds : DSt) (M : Mm), dWhileN c b D n ds M → dWhileN c b D' n ds M := by
      intro n
      induction n with
      | zero => intro ds M h; exact h.elim
      | succ n ih =>
        intro ds M h
        refine lc.mono (fun k M1 h1 => ?_) h
        cases k
        · exact hd.nx _ _ h1
        · exact lb.mono (D := { D with nx := dWhileN c b D n, ct := dWhileN c b D n, bk := D.nx }) ⟨fun _ _ z => ih _ _ z, hd.rt, hd.nx, fun _ _ z => ih _ _ z⟩ h1
    exact key n ds M h
  · obtain ⟨n, h⟩ := h
    refine ⟨fun m σ' H' => ∃ ds' M' Hb', Same Hb Hb' ∧ Own K F M' Hb' H' ∧ SRep K Hb' σ' ds' ∧ dWhileN c b (ClE K F Hb D) m ds' M', ⟨n, ds, M, Hb, Same.refl _, O, S, h⟩, ?_⟩
    rintro m σ1 H1 ⟨ds1, M1, Hb1, s1, O1, S1, h1⟩
    cases m with
    | zero => exact h1.elim
    | succ m =>
      refine lc.run (G.up g s1) O1 S1 (lc.mono (fun k M2 h2 Hb2 H2 s2 O2 => ?_) h1)
      cases k with
      | false => exact h2 _ _ _ (s1.trans s2) O2 (S1.up s2)
      | true =>
        refine ⟨fun σ' H' => ∃ ds' M' Hb', Same Hb Hb' ∧ Own K F M' Hb' H' ∧ SRep K Hb' σ' ds' ∧ dWhileN c b (ClE K F Hb D) m ds' M', fun σ' H' z => ⟨m, Nat.lt_succ_self m, z⟩, ?_⟩
        refine lb.run (G.up (G.up g s1) s2) O2 (S1.up s2) (lb.mono ⟨fun ds3 M3 q => ?_, fun _ _ q => Cl.up (s1.trans s2) q, fun _ _ q => ClS.up (s1.trans s2) q, fun ds3 M3 q => ?_⟩ h2)
        · exact fun σ' Hb' H' s' O' S' => ⟨ds3, M3, Hb', (s1.trans s2).trans s', O', S', q⟩
        · exact fun σ' Hb' H' s' O' S' => ⟨ds3, M3, Hb', (s1.trans s2).trans s', O', S', q⟩
theorem ds_while {c : Expr} {body : List Stmt} {tc : DTT} {tb : DTS} (hp : PassesOwn (model X.prog X.w) X.A X.env X.xe) (hc : DT X G c tc) (hb : DSs X G body tb) : DS X G (.While c body [] pos) (dWhile tc tb) := by
  obtain ⟨t1, p1, l1⟩ := hc
  obtain ⟨t2, p2, l2⟩ := hb
  exact ⟨_, ps_while hp p1 p2, ls_while l1 l2⟩
end

/-! ### what is walked -/
structure DIt where
  items : List Dt
  still : Mm → Prop := fun _ => True
abbrev DTI := DSt → Mm → (DIt → Mm → Prop) → Prop
/-- the iterator J yields the items of I, as long as what it walks stands still -/
def ItRep (K : PySem.W.Frag) (J : It) (I : DIt) (Hb : Hp) : Prop := ∀ (F2 : Fo) (Hb2 H2 : Hp) (M2 : Mm), Same Hb Hb2 → Own K F2 M2 Hb2 H2 → I.still M2 →
  (∀ i x, I.items[i]? = some x → J.go i H2 ∧ ∀ v H3, J.yld i H2 v H3 → ∃ Hb3, Same Hb2 Hb3 ∧ Own K F2 M2 Hb3 H3 ∧ Rep K Hb3 v x) ∧ ∀ i, I.items.length ≤ i → J.stop i H2
structure LI (K : PySem.W.Frag) (G : Lk) (w : TI) (d : DTI) : Prop where
  mono : ∀ {ds : DSt} {M : Mm} {R R' : DIt → Mm → Prop}, (∀ a b, R a b → R' a b) → d ds M R → d ds M R'
  run : ∀ {F : Fo} {σ : St} {ds : DSt} {Hb H : Hp} {M : Mm} {R : It → Hp → Prop}, G.g F Hb → Own K F M Hb H → SRep K Hb σ ds → d ds M (fun I M1 => ∀ J Hb1 H1, Same Hb Hb1 → Own K F M1 Hb1 H1 → ItRep K J I Hb1 → R J H1) → w σ H R
def DI (X : Cx) (G : Lk) (tg it : Expr) (d : DTI) : Prop := ∃ t, PI X tg it t ∧ LI X.K G t d
/-! ### for -/
def dForL (g : DTG) (b : DTS) (D : DEnds) (still : Mm → Prop) : List Dt → DSt → Mm → Prop
  | [], ds, M => still M ∧ D.nx ds M
  | x :: r, ds, M => still M ∧ g x ds M fun ds' M' => b { D with nx := dForL g b D still r, ct := dForL g b D still r, bk := D.nx } ds' M'
def dFor (w : DTI) (g : DTG) (b : DTS) : DTS := fun D ds M => w ds M fun I M1 => dForL g b D I.still I.items ds M1
section
variable {X : Cx} {G : Lk} {pos : Pos}
theorem drop_cons {α : Type} {l : List α} {i : Nat} {x : α} {r : List α} (h : l.drop i = x :: r) : l[i]? = some x ∧ l.drop (i + 1) = r := by
  refine ⟨?_, ?_⟩
  · have := congrArg (fun z => z[0]?) h
    simpa using this
  · have := congrArg (fun z => z.drop 1) h
    simpa [List.drop_drop] using this
theorem ls_for {K : PySem.W.Frag} {wi : TI} {tg : TG} {tb : TS} {w : DTI} {g : DTG} {b : DTS} (li : LI K G wi w) (lg : LG K G tg g) (lb : LS K G tb b) : LS K G (tFor wi tg tb) (dFor w g b) := by
  refine ⟨fun {ds M D D'} hd h => li.mono (fun I M1 h1 => ?_) h, fun {F σ ds Hb H M D} gg O S h => ?_⟩
  · have key : ∀ (l : List Dt) (ds : DSt) (M : Mm), dForL g b D I.still l ds M → dForL g b D' I.still l ds M := by
      intro l
      induction l with
      | nil => intro ds M h; exact ⟨h.1, hd.nx _ _ h.2⟩
      | cons x r ih =>
        intro ds M h
        exact ⟨h.1, lg.mono (fun ds' M' q => lb.mono (D := { D with nx := dForL g b D I.still r, ct := dForL g b D I.still r, bk := D.nx }) ⟨fun _ _ z => ih _ _ z, hd.rt, hd.nx, fun _ _ z => ih _ _ z⟩ q) h.2⟩
    exact key _ _ _ h1
  · refine li.run gg O S (li.mono (fun I M1 h1 J Hb1 H1 s1 O1 R1 => ?_) h)
    refine ⟨fun i m σ' H' => m = I.items.length - i ∧ i ≤ I.items.length ∧ ∃ ds' M' Hb', Same Hb1 Hb' ∧ Own K F M' Hb' H' ∧ SRep K Hb' σ' ds' ∧ dForL g b (ClE K F Hb D) I.still (I.items.drop i) ds' M',
      ⟨_, rfl, Nat.zero_le _, ds, M1, Hb1, Same.refl _, O1, S.up s1, h1⟩, ?_⟩
    rintro i m σ2 H2 ⟨rfl, hi, ds2, M2, Hb2, s2, O2, S2, h2⟩
    cases e : I.items.drop i with
    | nil =>
      rw [e] at h2
      have hl : I.items.length ≤ i := List.drop_eq_nil_iff.mp e
      exact .inl ⟨(R1 F Hb2 H2 M2 s2 O2 h2.1).2 i hl, h2.2 _ _ _ (s1.trans s2) O2 S2⟩
    | cons x r =>
      rw [e] at h2
      obtain ⟨e1, e2⟩ := drop_cons e
      have hlt : i < I.items.length := (List.getElem?_eq_some_iff.mp e1).1
      obtain ⟨go, step⟩ := (R1 F Hb2 H2 M2 s2 O2 h2.1).1 i x e1
      refine .inr ⟨go, fun σ' H' => ∃ ds' M' Hb', Same Hb1 Hb' ∧ Own K F M' Hb' H' ∧ SRep K Hb' σ' ds' ∧ dForL g b (ClE K F Hb D) I.still r ds' M', fun σ' H' z => ⟨I.items.length - (i + 1), by omega, rfl, hlt, by rw [e2]; exact z⟩, fun v H3 y => ?_⟩
      obtain ⟨Hb3, s3, O3, r3⟩ := step v H3 y
      have s03 := s1.trans (s2.trans s3)
      refine lg.run (G.up gg s03) O3 (S2.up s3) r3 (lg.mono (fun ds4 M4 h4 σ4 Hb4 H4 s4 O4 S4 => ?_) h2.2)
      refine lb.run (G.up gg (s03.trans s4)) O4 S4 (lb.mono ⟨fun ds5 M5 q σ5 Hb5 H5 s5 O5 S5 => ?_, fun _ _ q => Cl.up (s03.trans s4) q, fun _ _ q => ClS.up (s03.trans s4) q, fun ds5 M5 q σ5 Hb5 H5 s5 O5 S5 => ?_⟩ h4)
      · exact ⟨ds5, M5, Hb5, (s2.trans s3).trans (s4.trans s5), O5, S5, q⟩
      · exact ⟨ds5, M5, Hb5, (s2.trans s3).trans (s4.trans s5), O5, S5, q⟩
theorem ds_for {tg iter : Expr} {body : List Stmt} {w : DTI} {g : DTG} {b : DTS} (hp : PassesOwn (model X.prog X.w) X.A X.env X.xe) (hc : X.calm = true) (hi : DI X G tg iter w) (hg : DGt X G tg g) (hb : DSs X G body b)
    (hs : ∀ x, foldedSetIterable iter X.env x = pure x := by intro _; rfl) : DS X G (.For tg iter body [] pos) (dFor w g b) := by
  obtain ⟨t1, p1, l1⟩ := hi
  obtain ⟨t2, p2, l2⟩ := hg
  obtain ⟨t3, p3, l3⟩ := hb
  exact ⟨_, ps_for hp hc p1 p2 p3 hs, ls_for l1 l2 l3⟩
end

end DL
set_option Elab.async false
set_option linter.all false
set_option maxRecDepth 100000
set_option maxHeartbeats 4000000
/-! D layer, part H: iterators, comprehensions. -/
namespace DL
open PySem PySem.Spec PyProof.Rows L2

/-! ### iterators -/
section
variable {K : PySem.W.Frag} {Hb : Hp}
theorem itt_ok {a : Addr} {vs : List V} {xs : List Dt} (h : SqT K Hb a vs) (l : RepL K Hb vs xs) : ItRep K (Itt K a) ⟨xs, fun _ => True⟩ Hb := by
  intro F2 Hb2 H2 M2 s O _
  have h2 : SqT K H2 a vs := SqT.up (s.trans O.same) h
  refine ⟨fun i x e => ?_, fun i hl => ⟨vs, h2, by rw [l.length]; exact hl⟩⟩
  obtain ⟨v, e1, e2⟩ := l.get e
  refine ⟨⟨vs, v, h2, e1⟩, fun w H3 y => ?_⟩
  obtain ⟨rfl, y⟩ := y
  have q := y vs h2
  rw [e1] at q
  cases q
  exact ⟨Hb2, Same.refl _, O, e2.up s⟩
theorem itl_ok {a : Addr} {x : Dt} {xs : List Dt} (r : Rep K Hb (.ref a) x) : ItRep K (Itl K a) ⟨xs, fun M => rview M x = some xs⟩ Hb := by
  intro F2 Hb2 H2 M2 s O st
  obtain ⟨b, vs, e, h2, l⟩ := rview_run O (r.up s) st
  cases e
  refine ⟨fun i x e => ?_, fun i hl => ⟨vs, h2, by rw [l.length]; exact hl⟩⟩
  obtain ⟨v, e1, e2⟩ := l.get e
  refine ⟨⟨vs, v, h2, e1⟩, fun w H3 y => ?_⟩
  obtain ⟨rfl, y⟩ := y
  have q := y vs h2
  rw [e1] at q
  cases q
  exact ⟨Hb2, Same.refl _, O, e2⟩
end
def rngD (lo : Int) (n : Nat) : List Dt := (List.range n).map fun (i : Nat) => Dt.int (lo + (i : Int))
theorem itr_ok {K : PySem.W.Frag} {Hb : Hp} {lo : Int} {n : Nat} : ItRep K (Itr lo n) ⟨rngD lo n, fun _ => True⟩ Hb := by
  intro F2 Hb2 H2 M2 s O _
  refine ⟨fun i x e => ?_, fun i hl => (by show n ≤ i; simpa [rngD] using hl)⟩
  have hi : i < n := by
    have := (List.getElem?_eq_some_iff.mp e).1
    simpa [rngD] using this
  have e' : x = .int (lo + (i : Int)) := by
    unfold rngD at e
    rw [List.getElem?_map, List.getElem?_range hi] at e
    exact (Option.some.inj e).symm
  subst e'
  refine ⟨hi, fun w H3 y => ?_⟩
  obtain ⟨rfl, rfl⟩ := y
  exact ⟨Hb2, Same.refl _, O, .int⟩
/-- range(lo, .., step c) -/
def rngC (lo c : Int) (n : Nat) : List Dt := (List.range n).map fun (i : Nat) => Dt.int (lo + (i : Int) * c)
theorem itc_ok {K : PySem.W.Frag} {Hb : Hp} {lo c : Int} {n : Nat} : ItRep K (Itc lo c n) ⟨rngC lo c n, fun _ => True⟩ Hb := by
  intro F2 Hb2 H2 M2 s O _
  refine ⟨fun i x e => ?_, fun i hl => (by show n ≤ i; simpa [rngC] using hl)⟩
  have hi : i < n := by
    have := (List.getElem?_eq_some_iff.mp e).1
    simpa [rngC] using this
  have e' : x = .int (lo + (i : Int) * c) := by
    unfold rngC at e
    rw [List.getElem?_map, List.getElem?_range hi] at e
    exact (Option.some.inj e).symm
  subst e'
  refine ⟨hi, fun w H3 y => ?_⟩
  obtain ⟨rfl, rfl⟩ := y
  exact ⟨Hb2, Same.refl _, O, .int⟩
def signs (z : Str) : List Dt := z.cps.toList.map fun c => Dt.str ⟨#[c]⟩
theorem its_ok {K : PySem.W.Frag} {Hb : Hp} {z : Str} : ItRep K (Its z) ⟨signs z, fun _ => True⟩ Hb := by
  intro F2 Hb2 H2 M2 s O _
  refine ⟨fun i x e => ?_, fun i hl => (by show z.cps.size ≤ i; simpa [signs] using hl)⟩
  unfold signs at e
  rw [List.getElem?_map] at e
  obtain ⟨c, e1, e2⟩ := Option.map_eq_some_iff.mp e
  subst e2
  have hi := (List.getElem?_eq_some_iff.mp e1).1
  refine ⟨(by show i < z.cps.size; simpa using hi), fun w H3 y => ?_⟩
  obtain ⟨rfl, c', h1, rfl⟩ := y
  have : c' = c := by
    rw [Array.getElem?_toList] at e1
    rw [e1] at h1
    exact (Option.some.inj h1).symm
  subst this
  exact ⟨Hb2, Same.refl _, O, .str⟩
/-- enumerate of a list -/
def enumD : Nat → List Dt → List Dt
  | _, [] => []
  | n, x :: r => .tup [.int (n : Int), x] :: enumD (n + 1) r
theorem enumD_get : ∀ {xs : List Dt} {n i : Nat} {d : Dt}, (enumD n xs)[i]? = some d → ∃ x, xs[i]? = some x ∧ d = .tup [.int ((n + i : Nat) : Int), x]
  | [], _, _, _, e => by simp [enumD] at e
  | x :: r, n, 0, d, e => by simp [enumD] at e; exact ⟨x, rfl, e.symm⟩
  | x :: r, n, i + 1, d, e => by
    obtain ⟨y, h1, h2⟩ := enumD_get (xs := r) (n := n + 1) (i := i) (d := d) (by simpa [enumD] using e)
    exact ⟨y, by simpa using h1, by rw [h2]; congr 3; omega⟩
theorem enumD_length : ∀ (xs : List Dt) (n : Nat), (enumD n xs).length = xs.length
  | [], _ => rfl
  | _ :: r, n => congrArg Nat.succ (enumD_length r (n + 1))
theorem ite_ok {K : PySem.W.Frag} {Hb : Hp} {a : Addr} {x : Dt} {xs : List Dt} (r : Rep K Hb (.ref a) x) : ItRep K (Ite K a) ⟨enumD 0 xs, fun M => rview M x = some xs⟩ Hb := by
  intro F2 Hb2 H2 M2 s O st
  obtain ⟨b, vs, e, h2, l⟩ := rview_run O (r.up s) st
  cases e
  refine ⟨fun i d e => ?_, fun i hl => ⟨vs, h2, by rw [l.length]; simpa [enumD_length] using hl⟩⟩
  obtain ⟨y, e1, e2⟩ := enumD_get e
  subst e2
  obtain ⟨v, e3, e4⟩ := l.get e1
  refine ⟨⟨vs, v, h2, e3⟩, fun w H3 q => ?_⟩
  obtain ⟨T, v', rfl, hT, rfl, q⟩ := q
  have q' := q vs h2
  rw [e3] at q'
  cases q'
  have sn := same_new (o := HO.tup [.int (i : Nat), v]) (O.free hT).1
  exact ⟨_, sn, O.new hT, .tup (SqT.of upd_same) (.cons (by rw [Nat.zero_add]; exact .int) (.cons (e4.up sn) .nil))⟩
/-- zip of two -/
def zipD : List Dt → List Dt → List Dt
  | x :: r, y :: t => .tup [x, y] :: zipD r t
  | _, _ => []
theorem zipD_get : ∀ {xs ys : List Dt} {i : Nat} {d : Dt}, (zipD xs ys)[i]? = some d → ∃ x y, xs[i]? = some x ∧ ys[i]? = some y ∧ d = .tup [x, y]
  | [], _, _, _, e => by simp [zipD] at e
  | _ :: _, [], _, _, e => by simp [zipD] at e
  | x :: r, y :: t, 0, d, e => by simp [zipD] at e; exact ⟨x, y, rfl, rfl, e.symm⟩
  | x :: r, y :: t, i + 1, d, e => by
    obtain ⟨p, q, h1, h2, h3⟩ := zipD_get (xs := r) (ys := t) (i := i) (d := d) (by simpa [zipD] using e)
    exact ⟨p, q, by simpa using h1, by simpa using h2, h3⟩
theorem zipD_length : ∀ (xs ys : List Dt), (zipD xs ys).length = min xs.length ys.length
  | [], ys => by simp [zipD]
  | _ :: _, [] => by simp [zipD]
  | x :: r, y :: t => by
    show (zipD r t).length + 1 = _
    rw [zipD_length r t]
    simp only [List.length_cons]
    omega
theorem itz_ok {K : PySem.W.Frag} {Hb : Hp} {a b : Addr} {x y : Dt} {xs ys : List Dt} (r : Rep K Hb (.ref a) x) (r' : Rep K Hb (.ref b) y) : ItRep K (Itz K a b) ⟨zipD xs ys, fun M => rview M x = some xs ∧ rview M y = some ys⟩ Hb := by
  intro F2 Hb2 H2 M2 s O st
  obtain ⟨_, vs, e, h2, l⟩ := rview_run O (r.up s) st.1
  cases e
  obtain ⟨_, ws, e, h3, l'⟩ := rview_run O (r'.up s) st.2
  cases e
  refine ⟨fun i d e => ?_, fun i hl => ⟨vs, ws, h2, h3, by rw [l.length, l'.length]; rw [zipD_length] at hl; omega⟩⟩
  obtain ⟨p, q, e1, e2, e5⟩ := zipD_get e
  subst e5
  obtain ⟨v, e3, e4⟩ := l.get e1
  obtain ⟨u, e6, e7⟩ := l'.get e2
  refine ⟨⟨vs, ws, v, u, h2, h3, e3, e6⟩, fun w H3 q => ?_⟩
  obtain ⟨T, v', u', rfl, hT, rfl, q1, q2⟩ := q
  have q1' := q1 vs h2
  rw [e3] at q1'
  cases q1'
  have q2' := q2 ws h3
  rw [e6] at q2'
  cases q2'
  have sn := same_new (o := HO.tup [v, u]) (O.free hT).1
  exact ⟨_, sn, O.new hT, .tup (SqT.of upd_same) (.cons (e4.up sn) (.cons (e7.up sn) .nil))⟩
theorem itzT_ok {K : PySem.W.Frag} {Hb : Hp} {a b : Addr} {vs ws : List V} {xs ys : List Dt} (h : SqT K Hb a vs) (h' : SqT K Hb b ws) (l : RepL K Hb vs xs) (l' : RepL K Hb ws ys) : ItRep K (RZ.ItzT K a b) ⟨zipD xs ys, fun _ => True⟩ Hb := by
  intro F2 Hb2 H2 M2 s O st
  have h2 : SqT K H2 a vs := SqT.up (s.trans O.same) h
  have h3 : SqT K H2 b ws := SqT.up (s.trans O.same) h'
  refine ⟨fun i d e => ?_, fun i hl => ⟨vs, ws, h2, h3, by rw [l.length, l'.length]; rw [zipD_length] at hl; omega⟩⟩
  obtain ⟨p, q, e1, e2, e5⟩ := zipD_get e
  subst e5
  obtain ⟨v, e3, e4⟩ := l.get e1
  obtain ⟨u, e6, e7⟩ := l'.get e2
  refine ⟨⟨vs, ws, v, u, h2, h3, e3, e6⟩, fun w H3 q => ?_⟩
  obtain ⟨T, v', u', rfl, hT, rfl, q1, q2⟩ := q
  have q1' := q1 vs h2
  rw [e3] at q1'
  cases q1'
  have q2' := q2 ws h3
  rw [e6] at q2'
  cases q2'
  have sn := same_new (o := HO.tup [v, u]) (O.free hT).1
  exact ⟨_, sn, O.new hT, .tup (SqT.of upd_same) (.cons ((e4.up s).up sn) (.cons ((e7.up s).up sn) .nil))⟩
theorem itv_ok {K : PySem.W.Frag} {Hb : Hp} {a : Addr} {x : Dt} {xs : List Dt} {n : Nat} (r : Rep K Hb (.ref a) x) (hn : n = xs.length) : ItRep K (Itv K a n) ⟨xs.reverse, fun M => rview M x = some xs⟩ Hb := by
  intro F2 Hb2 H2 M2 s O st
  obtain ⟨b, vs, e, h2, l⟩ := rview_run O (r.up s) st
  cases e
  subst hn
  refine ⟨fun i d e => ?_, fun i hl => (by show xs.length ≤ i; simpa using hl)⟩
  have hi : i < xs.length := by
    have := (List.getElem?_eq_some_iff.mp e).1
    simpa using this
  rw [List.getElem?_reverse hi] at e
  obtain ⟨v, e3, e4⟩ := l.get e
  refine ⟨⟨hi, vs, v, h2, e3⟩, fun w H3 q => ?_⟩
  obtain ⟨rfl, q⟩ := q
  have q' := q vs h2
  rw [e3] at q'
  cases q'
  exact ⟨Hb2, Same.refl _, O, e4⟩

/-- a list, a tuple or a text -/
def iSq (K : PySem.W.Frag) (tl : TE) : TI := fun σ H R => tl σ H fun x H1 => (∃ a, x = .ref a ∧ (((∃ xs, SqL K H1 a xs) ∧ R (Itl K a) H1) ∨ ((∃ xs, SqT K H1 a xs) ∧ R (Itt K a) H1))) ∨ ∃ z, x = .str z ∧ R (Its z) H1
section
variable {X : Cx} {G : Lk} {tg e : Expr} {d : DTE} {da : DTA} {pos p : Pos}
theorem pi_sq {l : Expr} {tl : TE} (hl : PE X l tl) : PI X tg l (iSq X.K tl) := by
  refine ⟨fun pins s σ H R I h => ?_⟩
  refine thn (hl.run pins s σ H _ I h) fun v s1 ⟨x, H1, I1, r1, q1⟩ => ?_
  rcases q1 with ⟨a, e, ⟨⟨xs, hq⟩, q⟩ | ⟨⟨xs, hq⟩, q⟩⟩ | ⟨z, e, q⟩
  · subst e
    cases r1
    obtain ⟨its, rv, p, hz⟩ := I1.list hq
    refine wpAny_pyIter_list p.isList ?_
    refine ⟨s1.heap.objs.size, [s1.heap.objs.size], _, _, H1, rfl, I1.kept (t' := s1.toks) fun b o e => Heap.get?_push_of_some _ e, turn_list a _, ⟨_, Heap.get?_push_size _ rfl, rfl, rfl⟩, fun b hb => ?_, q⟩
    have e : b = s1.heap.objs.size := by simpa using hb
    subst e
    exact I1.fpOk (Nat.le_refl _) (I1.hok.fresh (Nat.le_refl _))
  · subst e
    cases r1
    obtain ⟨its, rv, p, hz⟩ := I1.tuple hq
    refine wpAny_pyIter_tuple (show s1.heap.IsTuple a its.toArray from p) ?_
    refine ⟨s1.heap.objs.size, [s1.heap.objs.size], _, _, H1, rfl, I1.kept (t' := s1.toks) fun b o e => Heap.get?_push_of_some _ e, turn_tuple a _, ⟨_, Heap.get?_push_size _ rfl, rfl, rfl⟩, fun b hb => ?_, q⟩
    have e : b = s1.heap.objs.size := by simpa using hb
    subst e
    exact I1.fpOk (Nat.le_refl _) (I1.hok.fresh (Nat.le_refl _))
  · subst e
    obtain ⟨t, rfl⟩ := r1
    cases ha : z.cps.all (· < 128)
    · exact wpAny_pyIter_wide ha (pi_one (tk := s1.toks) I1 _ (turn_str _ z t "str_iterator" (.inr rfl)) ⟨_, Heap.get?_push_size _ rfl, rfl, rfl⟩ q)
    · exact wpAny_pyIter_ascii ha (pi_one (tk := s1.toks) I1 _ (turn_str _ z t "str_ascii_iterator" (.inl rfl)) ⟨_, Heap.get?_push_size _ rfl, rfl, rfl⟩ q)
def dSeqIt (t : DTE) : DTI := fun ds M R => t ds M fun x M1 => match x with
  | .tup xs => R ⟨xs, fun _ => True⟩ M1
  | .str z => R ⟨signs z, fun _ => True⟩ M1
  | x => match rview M1 x with
    | some xs => R ⟨xs, fun M => rview M x = some xs⟩ M1
    | none => False
theorem di_seq (h : DE X G e d) : DI X G tg e (dSeqIt d) := by
  obtain ⟨t, pe, le⟩ := h
  refine ⟨_, pi_sq pe, ⟨fun hr h => le.mono (fun x M1 h1 => ?_) h, fun {F σ ds Hb H M R} g O S h => le.run g O S (le.mono (fun x M1 h1 v Hb1 H1 s1 O1 r1 => ?_) h)⟩⟩
  · split at h1
    · exact hr _ _ h1
    · exact hr _ _ h1
    · split at h1
      · exact hr _ _ h1
      · exact h1.elim
  · split at h1
    · cases r1 with
      | tup h2 l => exact .inl ⟨_, rfl, .inr ⟨⟨_, SqT.up O1.same h2⟩, h1 _ _ _ s1 O1 (itt_ok h2 l)⟩⟩
    · cases r1
      exact .inr ⟨_, rfl, h1 _ _ _ s1 O1 its_ok⟩
    · split at h1
      · rename_i xs ev
        obtain ⟨a, vs, rfl, h2, l⟩ := rview_run O1 r1 ev
        exact .inl ⟨_, rfl, .inl ⟨⟨_, h2⟩, h1 _ _ _ s1 O1 (itl_ok r1)⟩⟩
      · exact h1.elim
end
end DL
set_option Elab.async false
set_option linter.all false
set_option maxRecDepth 100000
set_option maxHeartbeats 4000000
/-! D layer, part J: range, zip, enumerate, reversed; comprehensions. -/
namespace DL
open PySem PySem.Spec PyProof.Rows L2

def dRng1 (t : DTA) : DTI := fun ds M R => t ds M fun xs M1 => match xs with
  | [.int j] => -(2 ^ 62) ≤ j ∧ j < 2 ^ 62 ∧ R ⟨rngD 0 j.toNat, fun _ => True⟩ M1
  | _ => False
def dRng2 (t : DTA) : DTI := fun ds M R => t ds M fun xs M1 => match xs with
  | [.int i, .int j] => (-(2 ^ 62) ≤ i ∧ i < 2 ^ 62 ∧ -(2 ^ 62) ≤ j ∧ j < 2 ^ 62) ∧ R ⟨rngD i (j - i).toNat, fun _ => True⟩ M1
  | _ => False
def dRng3 (t : DTA) : DTI := fun ds M R => t ds M fun xs M1 => match xs with
  | [.int i, .int j, .int c] => ∃ n, RgC i j c n ∧ R ⟨rngC i c n, fun _ => True⟩ M1
  | _ => False
def dZip (t : DTA) : DTI := fun ds M R => t ds M fun xs M1 => match xs with
  | [.tup xs, .tup ys] => R ⟨zipD xs ys, fun _ => True⟩ M1
  | [x, y] => (match rview M1 x, rview M1 y with
    | some xs, some ys => R ⟨zipD xs ys, fun M => rview M x = some xs ∧ rview M y = some ys⟩ M1
    | _, _ => False)
  | _ => False
def dEnum (t : DTA) : DTI := fun ds M R => t ds M fun xs M1 => match xs with
  | [x] => (match rview M1 x with
    | some xs => R ⟨enumD 0 xs, fun M => rview M x = some xs⟩ M1
    | _ => False)
  | _ => False
def dRev (t : DTA) : DTI := fun ds M R => t ds M fun xs M1 => match xs with
  | [x] => (match rview M1 x with
    | some xs => R ⟨xs.reverse, fun M => rview M x = some xs⟩ M1
    | _ => False)
  | _ => False
section
variable {X : Cx} {G : Lk} {tg a b c : Expr} {t : DTA} {pos p : Pos}
theorem di_range1 (hg : Gl X "range") (hm : X.mg "range" = none) (ha : DA X G [a] t) (hs : starEach [a] X.env = [(false, eval a X.env)] := by rfl) : DI X G tg (.Call (.Name "range" p) [a] [] pos) (dRng1 t) := by
  obtain ⟨ta, pa, la⟩ := ha
  refine ⟨_, pi_range1 hg hm pa hs, ⟨fun hr h => la.mono (fun xs M1 h1 => ?_) h, fun {F σ ds Hb H M R} g O S h => la.run g O S (la.mono (fun xs M1 h1 vs Hb1 H1 s1 O1 r1 => ?_) h)⟩⟩
  · split at h1
    · exact ⟨h1.1, h1.2.1, hr _ _ h1.2.2⟩
    · exact h1.elim
  · split at h1
    · cases r1 with
      | cons r2 r3 => cases r2; cases r3; exact ⟨_, rfl, h1.1, h1.2.1, h1.2.2 _ _ _ s1 O1 itr_ok⟩
    · exact h1.elim
theorem di_range2 (hg : Gl X "range") (hm : X.mg "range" = none) (ha : DA X G [a, b] t) (hs : starEach [a, b] X.env = [(false, eval a X.env), (false, eval b X.env)] := by rfl) (hs2 : starEach [b] X.env = [(false, eval b X.env)] := by rfl) :
    DI X G tg (.Call (.Name "range" p) [a, b] [] pos) (dRng2 t) := by
  obtain ⟨ta, pa, la⟩ := ha
  refine ⟨_, pi_range2 hg hm pa hs hs2, ⟨fun hr h => la.mono (fun xs M1 h1 => ?_) h, fun {F σ ds Hb H M R} g O S h => la.run g O S (la.mono (fun xs M1 h1 vs Hb1 H1 s1 O1 r1 => ?_) h)⟩⟩
  · split at h1
    · exact ⟨h1.1, hr _ _ h1.2⟩
    · exact h1.elim
  · split at h1
    · cases r1 with
      | cons r2 r3 => cases r2; cases r3 with
        | cons r4 r5 => cases r4; cases r5; exact ⟨_, _, rfl, h1.1, h1.2 _ _ _ s1 O1 itr_ok⟩
    · exact h1.elim
theorem di_range3 (hg : Gl X "range") (hm : X.mg "range" = none) (ha : DA X G [a, b, c] t)
    (hs : starEach [a, b, c] X.env = (false, eval a X.env) :: starEach [b, c] X.env := by rfl) (hpl : (backTo pos (starEach [b, c] X.env)).any (·.1) = false := by rfl) :
    DI X G tg (.Call (.Name "range" p) [a, b, c] [] pos) (dRng3 t) := by
  obtain ⟨ta, pa, la⟩ := ha
  refine ⟨_, pi_range3 hg hm pa hs hpl, ⟨fun hr h => la.mono (fun xs M1 h1 => ?_) h, fun {F σ ds Hb H M R} g O S h => la.run g O S (la.mono (fun xs M1 h1 vs Hb1 H1 s1 O1 r1 => ?_) h)⟩⟩
  · split at h1
    · obtain ⟨n, h2, h3⟩ := h1; exact ⟨n, h2, hr _ _ h3⟩
    · exact h1.elim
  · split at h1
    · obtain ⟨n, h2, h3⟩ := h1
      cases r1 with
      | cons r2 r3 => cases r2; cases r3 with
        | cons r4 r5 => cases r4; cases r5 with
          | cons r6 r7 => cases r6; cases r7; exact ⟨_, _, _, n, rfl, h2, h3 _ _ _ s1 O1 itc_ok⟩
    · exact h1.elim
theorem di_zip {tpos : Pos} {elts : List Expr} {kk : Nat} (hg : Gl X "zip") (hm : X.mg "zip" = none) (ha : DA X G [a, b] t)
    (hs : starEach [a, b] X.env = (false, eval a X.env) :: starEach [b] X.env := by rfl) (hpl : (backTo pos (starEach [b] X.env)).any (·.1) = false := by rfl) :
    DI X G (.Tuple elts kk tpos) (.Call (.Name "zip" p) [a, b] [] pos) (dZip t) := by
  obtain ⟨ta, pa, la⟩ := ha
  refine ⟨_, RZ.pi_zipA hg hm pa hs hpl, ⟨fun hr h => la.mono (fun xs M1 h1 => ?_) h, fun {F σ ds Hb H M R} g O S h => la.run g O S (la.mono (fun xs M1 h1 vs Hb1 H1 s1 O1 r1 => ?_) h)⟩⟩
  · split at h1
    · exact hr _ _ h1
    · split at h1
      · exact hr _ _ h1
      · exact h1.elim
    · exact h1.elim
  · split at h1
    · cases r1 with
      | cons r2 r3 => cases r3 with
        | cons r4 r5 =>
          cases r5
          cases r2 with
          | tup h2 l2 =>
          cases r4 with
          | tup h4 l4 => exact ⟨_, _, _, _, rfl, .inr ⟨SqT.up O1.same h2, SqT.up O1.same h4, h1 _ _ _ s1 O1 (itzT_ok h2 h4 l2 l4)⟩⟩
    · split at h1
      · rename_i xs ys e1 e2
        cases r1 with
        | cons r2 r3 => cases r3 with
          | cons r4 r5 =>
            cases r5
            obtain ⟨_, ws, rfl, h2, l2⟩ := rview_run O1 r2 e1
            obtain ⟨_, us, rfl, h4, l4⟩ := rview_run O1 r4 e2
            exact ⟨_, _, _, _, rfl, .inl ⟨h2, h4, h1 _ _ _ s1 O1 (itz_ok r2 r4)⟩⟩
      · exact h1.elim
    · exact h1.elim
theorem di_enum {tpos : Pos} {elts : List Expr} {kk : Nat} (hg : Gl X "enumerate") (hm : X.mg "enumerate" = none) (ha : DA X G [a] t) (hs : starEach [a] X.env = [(false, eval a X.env)] := by rfl) :
    DI X G (.Tuple elts kk tpos) (.Call (.Name "enumerate" p) [a] [] pos) (dEnum t) := by
  obtain ⟨ta, pa, la⟩ := ha
  refine ⟨_, pi_enum hg hm pa hs, ⟨fun hr h => la.mono (fun xs M1 h1 => ?_) h, fun {F σ ds Hb H M R} g O S h => la.run g O S (la.mono (fun xs M1 h1 vs Hb1 H1 s1 O1 r1 => ?_) h)⟩⟩
  · split at h1
    · split at h1
      · exact hr _ _ h1
      · exact h1.elim
    · exact h1.elim
  · split at h1
    · split at h1
      · rename_i xs e1
        cases r1 with
        | cons r2 r3 =>
          cases r3
          obtain ⟨_, ws, rfl, h2, l2⟩ := rview_run O1 r2 e1
          exact ⟨_, _, rfl, h2, h1 _ _ _ s1 O1 (ite_ok r2)⟩
      · exact h1.elim
    · exact h1.elim
theorem di_rev (hg : Gl X "reversed") (hm : X.mg "reversed" = none) (ha : DA X G [a] t) (hs : starEach [a] X.env = [(false, eval a X.env)] := by rfl) : DI X G tg (.Call (.Name "reversed" p) [a] [] pos) (dRev t) := by
  obtain ⟨ta, pa, la⟩ := ha
  refine ⟨_, pi_reversed hg hm pa hs, ⟨fun hr h => la.mono (fun xs M1 h1 => ?_) h, fun {F σ ds Hb H M R} g O S h => la.run g O S (la.mono (fun xs M1 h1 vs Hb1 H1 s1 O1 r1 => ?_) h)⟩⟩
  · split at h1
    · split at h1
      · exact hr _ _ h1
      · exact h1.elim
    · exact h1.elim
  · split at h1
    · split at h1
      · rename_i xs e1
        cases r1 with
        | cons r2 r3 =>
          cases r3
          obtain ⟨_, ws, rfl, h2, l2⟩ := rview_run O1 r2 e1
          exact ⟨_, _, rfl, h2, h1 _ _ _ s1 O1 (itv_ok r2 l2.length)⟩
      · exact h1.elim
    · exact h1.elim
end

/-! ### the reading that a data reading is -/
def teD (K : PySem.W.Frag) (G : Lk) (d : DTE) : TE := fun σ H Q => ∃ F Hb M ds, G.g F Hb ∧ Own K F M Hb H ∧ SRep K Hb σ ds ∧ d ds M (Cl K F Hb Q)
def ttD (K : PySem.W.Frag) (G : Lk) (d : DTT) : TT := fun σ H Q => ∃ F Hb M ds, G.g F Hb ∧ Own K F M Hb H ∧ SRep K Hb σ ds ∧ d ds M (ClB K F Hb Q)
def tiD (K : PySem.W.Frag) (G : Lk) (d : DTI) : TI := fun σ H R => ∃ F Hb M ds, G.g F Hb ∧ Own K F M Hb H ∧ SRep K Hb σ ds ∧ d ds M (fun I M1 => ∀ J Hb1 H1, Same Hb Hb1 → Own K F M1 Hb1 H1 → ItRep K J I Hb1 → R J H1)
theorem pe_can {X : Cx} {G : Lk} {e : Expr} {d : DTE} (h : DE X G e d) : PE X e (teD X.K G d) := by
  obtain ⟨t, pe, le⟩ := h
  exact ⟨fun pins s σ H Q I q => by
    obtain ⟨F, Hb, M, ds, g, O, S, q⟩ := q
    exact pe.run pins s σ H Q I (le.run g O S q)⟩
theorem pt_can {X : Cx} {G : Lk} {e : Expr} {d : DTT} (h : DT X G e d) : PT X e (ttD X.K G d) := by
  obtain ⟨t, pe, le⟩ := h
  exact ⟨fun pins s σ H Q I q => by
    obtain ⟨F, Hb, M, ds, g, O, S, q⟩ := q
    exact pe.run pins s σ H Q I (le.run g O S q)⟩
theorem pi_can {X : Cx} {G : Lk} {tg e : Expr} {d : DTI} (h : DI X G tg e d) : PI X tg e (tiD X.K G d) := by
  obtain ⟨t, pe, le⟩ := h
  exact ⟨fun pins s σ H Q I q => by
    obtain ⟨F, Hb, M, ds, g, O, S, q⟩ := q
    exact pe.run pins s σ H Q I (le.run g O S q)⟩
/-! ### a comprehension's block -/
abbrev BX (X : Cx) (scope : Scope) (s : Shared) (H : Hp) (C : Addr) (cl : List (Str × Addr)) (fp : List Addr) : Cx := X.blk s H scope (compEnvC scope cl C X.env) fp
def DEb (X : Cx) (scope : Scope) (e : Expr) (d : DTE) : Prop := ∀ s H C cl fp, DE (BX X scope s H C cl fp) Lk.any e d
def DTb (X : Cx) (scope : Scope) (e : Expr) (d : DTT) : Prop := ∀ s H C cl fp, DT (BX X scope s H C cl fp) Lk.any e d
def DIb (X : Cx) (scope : Scope) (tg e : Expr) (d : DTI) : Prop := ∀ s H C cl fp, DI (BX X scope s H C cl fp) Lk.any tg e d
theorem le_canb {X : Cx} {scope : Scope} {e : Expr} {d : DTE} (h : DEb X scope e d) : LE X.K Lk.any (teD X.K Lk.any d) d := by
  obtain ⟨t, pe, le⟩ := h X.s_0 (fun _ => none) 0 [] []
  exact ⟨le.mono, fun g O S q => ⟨_, _, _, _, g, O, S, q⟩⟩
theorem lt_canb {X : Cx} {scope : Scope} {e : Expr} {d : DTT} (h : DTb X scope e d) : LT X.K Lk.any (ttD X.K Lk.any d) d := by
  obtain ⟨t, pe, le⟩ := h X.s_0 (fun _ => none) 0 [] []
  exact ⟨le.mono, fun g O S q => ⟨_, _, _, _, g, O, S, q⟩⟩
theorem li_canb {X : Cx} {scope : Scope} {tg e : Expr} {d : DTI} (h : DIb X scope tg e d) : LI X.K Lk.any (tiD X.K Lk.any d) d := by
  obtain ⟨t, pe, le⟩ := h X.s_0 (fun _ => none) 0 [] []
  exact ⟨le.mono, fun g O S q => ⟨_, _, _, _, g, O, S, q⟩⟩
/-- targets of names that the block owns (slots vs) -/
structure LW (K : PySem.W.Frag) (vs : List Nat) (t : TG) (d : DTG) : Prop where
  mono : ∀ {x : Dt} {ds : DSt} {M : Mm} {Q Q' : DSt → Mm → Prop}, (∀ a b, Q a b → Q' a b) → d x ds M Q → d x ds M Q'
  run : ∀ {F : Fo} {σ : St} {ds : DSt} {Hb H : Hp} {M : Mm} {v : V} {x : Dt} {Q : St → Hp → Prop}, Own K F M Hb H → SRep K Hb σ ds → Rep K Hb v x →
    d x ds M (fun ds' M' => ∀ σ' Hb' H', Same Hb Hb' → Own K F M' Hb' H' → SRep K Hb' σ' ds' → wipe σ' vs = wipe σ vs → Q σ' H') → t v σ H Q
structure LWs (K : PySem.W.Frag) (vs : List Nat) (t : TGs) (d : DTGs) : Prop where
  mono : ∀ {x : List Dt} {ds : DSt} {M : Mm} {Q Q' : DSt → Mm → Prop}, (∀ a b, Q a b → Q' a b) → d x ds M Q → d x ds M Q'
  run : ∀ {F : Fo} {σ : St} {ds : DSt} {Hb H : Hp} {M : Mm} {v : List V} {x : List Dt} {Q : St → Hp → Prop}, Own K F M Hb H → SRep K Hb σ ds → RepL K Hb v x →
    d x ds M (fun ds' M' => ∀ σ' Hb' H', Same Hb Hb' → Own K F M' Hb' H' → SRep K Hb' σ' ds' → wipe σ' vs = wipe σ vs → Q σ' H') → t v σ H Q
theorem wipe_set_mem {x : Option V} {i : Nat} : ∀ {vs : List Nat} (σ : St), i ∈ vs → wipe (σ.set i x) vs = wipe σ vs
  | [], _, h => by cases h
  | v :: vs, σ, h => by
    show (wipe (σ.set i x) vs).set v none = (wipe σ vs).set v none
    by_cases hv : i ∈ vs
    · rw [wipe_set_mem σ hv]
    · have e : i = v := by
        rcases List.mem_cons.mp h with e | h
        · exact e
        · exact absurd h hv
      subst e
      have key : ∀ (vs : List Nat), i ∉ vs → wipe (σ.set i x) vs = (wipe σ vs).set i x := by
        intro vs
        induction vs with
        | nil => intro _; rfl
        | cons w ws ih =>
          intro hw
          have h1 : i ≠ w := fun z => hw (z ▸ List.mem_cons_self)
          have h2 : i ∉ ws := fun z => hw (List.mem_cons_of_mem _ z)
          show (wipe (σ.set i x) ws).set w none = ((wipe σ ws).set w none).set i x
          rw [ih h2, List.set_comm _ _ h1]
      rw [key vs hv, List.set_set]
def DGw (X : Cx) (scope : Scope) (vs : List Nat) (e : Expr) (d : DTG) : Prop := ∃ t, (∀ s H C cl fp, PG (BX X scope s H C cl fp) e t) ∧ LW X.K vs t d
def DGws (X : Cx) (scope : Scope) (vs : List Nat) (e : List Expr) (d : DTGs) : Prop := ∃ t, (∀ s H C cl fp, PGs (BX X scope s H C cl fp) e t) ∧ LWs X.K vs t d
section
variable {X : Cx} {scope : Scope} {vs : List Nat} {e : Expr} {es : List Expr} {pos : Pos}
theorem dgw_name {i : Nat} {x : Str} (hN : X.N.Nodup) (hm : i ∈ vs := by decide) (hi : X.N[i]? = some x := by rfl) (hx : ∀ s H C cl fp, Loc (BX X scope s H C cl fp).env.scope x := by intro _ _ _ _ _; first | exact Or.inl rfl | exact Or.inr rfl)
    (hf : ∀ s H C cl fp, (BX X scope s H C cl fp).fn x = true ∨ (BX X scope s H C cl fp).env.scope.names.lookup x = some .local := by intro _ _ _ _ _; first | exact .inl rfl | exact .inr rfl) : DGw X scope vs (.Name x pos) (dName i) :=
  ⟨gName i, fun s H C cl fp => pg_name (X := BX X scope s H C cl fp) hN hi (hx s H C cl fp) (hf s H C cl fp), ⟨fun hq h => hq _ _ h, fun O S r h => h _ _ _ (Same.refl _) O (S.set i r) (wipe_set_mem _ hm)⟩⟩
theorem dgws_nil : DGws X scope vs [] dGNil := ⟨gNil, fun s H C cl fp => pgs_nil, ⟨fun hq h => ⟨h.1, hq _ _ h.2⟩, fun O S r h => ⟨(by have e := h.1; subst e; cases r; rfl), h.2 _ _ _ (Same.refl _) O S rfl⟩⟩⟩
theorem dgws_cons {d : DTG} {d' : DTGs} (h1 : DGw X scope vs e d) (h2 : DGws X scope vs es d')
    (hs : ∀ s H C cl fp, (assignEach (e :: es) (BX X scope s H C cl fp).env).map (·.2) = assign e (BX X scope s H C cl fp).env :: (assignEach es (BX X scope s H C cl fp).env).map (·.2) := by intro _ _ _ _ _; rfl) : DGws X scope vs (e :: es) (dGCons d d') := by
  obtain ⟨ta, pa, la⟩ := h1
  obtain ⟨tb, pb, lb⟩ := h2
  refine ⟨_, fun s H C cl fp => pgs_cons (pa s H C cl fp) (pb s H C cl fp) (hs s H C cl fp), ⟨fun {x ds M Q Q'} hq h => ?_, fun {F σ ds Hb H M v x Q} O S r h => ?_⟩⟩
  · cases x with
    | nil => exact h.elim
    | cons x r => exact la.mono (fun ds' M' q => lb.mono hq q) h
  · cases r with
    | nil => exact h.elim
    | cons r1 r2 =>
      refine ⟨_, _, rfl, la.run O S r1 (la.mono (fun ds1 M1 h1 σ1 Hb1 H1 s1 O1 S1 w1 => ?_) h)⟩
      exact lb.run O1 S1 (r2.up s1) (lb.mono (fun ds2 M2 z σ2 Hb2 H2 s2 O2 S2 w2 => z σ2 Hb2 H2 (s1.trans s2) O2 S2 (w2.trans w1)) h1)
theorem dgw_tup {k : Nat} {d : DTGs} {n : Nat} (hc : X.calm = true) (h : DGws X scope vs es d) (hn : ∀ s H C cl fp, (assignEach es (BX X scope s H C cl fp).env).length = n := by intro _ _ _ _ _; rfl)
    (hst : ∀ s H C cl fp, (assignEach es (BX X scope s H C cl fp).env).findIdx? (·.1) = none := by intro _ _ _ _ _; rfl) : DGw X scope vs (.Tuple es k pos) (dGTup n d) := by
  obtain ⟨ta, pa, la⟩ := h
  refine ⟨gTup X.K n ta, fun s H C cl fp => pg_tup (X := BX X scope s H C cl fp) hc (pa s H C cl fp) (hn s H C cl fp) (hst s H C cl fp), ⟨fun {x ds M Q Q'} hq h => ?_, fun {F σ ds Hb H M v x Q} O S r h => ?_⟩⟩
  · cases x <;> first | exact h.elim | exact ⟨h.1, la.mono hq h.2⟩
  · cases r with
    | tup h1 h2 => exact ⟨_, _, rfl, SqT.up O.same h1, by rw [h2.length]; exact h.1, la.run O S h2 h.2⟩
    | _ => exact h.elim
/-- the ifs -/
def DTs (X : Cx) (scope : Scope) (ifs : List Expr) (d : DTT) : Prop := ∃ t, (∀ s H C cl fp, PTs (BX X scope s H C cl fp) ifs t) ∧ LT X.K Lk.any t d
def dYes : DTT := fun _ M Q => Q true M
theorem dts_nil : DTs X scope [] dYes := ⟨tYes, fun s H C cl fp => pts_nil, ⟨fun hq h => hq _ _ h, fun g O S h => h _ _ (Same.refl _) O⟩⟩
theorem dts_one {d : DTT} (h : DTb X scope e d) : DTs X scope [e] d := ⟨_, fun s H C cl fp => pts_one (pt_can (h s H C cl fp)), lt_canb h⟩
end
/-! the new list is somebody else's while it grows -/
section
variable {K : PySem.W.Frag} {F : Fo} {M : Mm} {Hb H : Hp} {D : Addr} {o o' : HO}
theorem Own.addF (O : Own K F M Hb H) (hD : H D = none) (ho : Cm o := by constructor <;> (intro _ h; cases h)) : Own K (F.put D o) M Hb (upd H D o) := by
  obtain ⟨f1, f2, f3⟩ := O.free hD
  refine ⟨fun b u e => ?_, fun b u e => ?_, fun a d e => ?_, fun a u e => ?_, (O.tb.new hD).fb ho⟩
  · rw [upd_ne (ne_of_none e f1)]; exact O.same b u e
  · have e : upd F.hp D o b = some u := e
    by_cases h : b = D
    · subst h; rw [upd_same] at e ⊢; exact e
    · rw [upd_ne h] at e ⊢; exact O.fr b u e
  · have ne := O.neM hD e
    obtain ⟨h1, h2, h3⟩ := O.mt a d e
    exact ⟨h1.up (fun o q => by rw [upd_ne ne]; exact q) (Same.refl _), h2, (upd_ne ne).trans h3⟩
  · have e : upd F.hp D o a = some u := e
    by_cases h : a = D
    · subst h; exact f1
    · rw [upd_ne h] at e; exact O.dj a u e
theorem Own.updF (O : Own K (F.put D o) M Hb H) (hn : Cm o := by constructor <;> (intro _ h; cases h)) (ho : Cm o' := by constructor <;> (intro _ h; cases h)) (hF : F.hp D = none) : Own K (F.put D o') M Hb (upd H D o') := by
  have hb : Hb D = none := O.dj D o upd_same
  have hH : H D = some o := O.fr D o upd_same
  have nf : ∀ b u, F.hp b = some u → Cm u := fun b u e => O.tb.2.2 b u ((upd_ne (ne_of_none e hF)).trans e)
  refine ⟨fun b u e => ?_, fun b u e => ?_, fun a d e => ?_, fun a u e => ?_, ⟨(O.tb.wr hH hn.1 hn.2).1, O.tb.2.1, upd_cm nf ho⟩⟩
  · rw [upd_ne (ne_of_none e hb)]; exact O.same b u e
  · have e : upd F.hp D o' b = some u := e
    by_cases h : b = D
    · subst h; rw [upd_same] at e ⊢; exact e
    · rw [upd_ne h] at e ⊢; exact O.fr b u ((upd_ne h).trans e)
  · obtain ⟨h1, h2, h3⟩ := O.mt a d e
    have h3 : upd F.hp D o a = none := h3
    have ne : a ≠ D := fun z => by rw [z, upd_same] at h3; cases h3
    rw [upd_ne ne] at h3
    exact ⟨h1.up (fun o q => by rw [upd_ne ne]; exact q) (Same.refl _), h2, (upd_ne ne).trans h3⟩
  · have e : upd F.hp D o' a = some u := e
    by_cases h : a = D
    · subst h; exact hb
    · rw [upd_ne h] at e; exact O.dj a u ((upd_ne h).trans e)
/-- at the end it comes over -/
theorem Own.backF (O : Own K (F.put D o) M Hb H) (hF : F.hp D = none) (hn : ∀ ps, o ≠ .tbl ps) : Tb F.tb F.hp Hb H := ⟨O.tb.1, O.tb.2.1, fun b ps e => O.tb.2.2 b ps ((upd_ne (ne_of_none e hF)).trans e)⟩
theorem Own.fromF (O : Own K (F.put D o) M Hb H) (hF : F.hp D = none) (hn : ∀ ps, o ≠ .tbl ps := by intro _ h; cases h) : Own K F M (upd Hb D o) H := by
  have hb : Hb D = none := O.dj D o upd_same
  refine ⟨fun b u e => ?_, fun b u e => O.fr b u ((upd_ne (ne_of_none e hF)).trans e), fun a d e => ?_, fun a u e => ?_, (O.backF hF hn).hb hn⟩
  · by_cases h : b = D
    · subst h; rw [upd_same] at e; exact O.fr b u (upd_same.trans e)
    · rw [upd_ne h] at e; exact O.same b u e
  · obtain ⟨h1, h2, h3⟩ := O.mt a d e
    have h3 : upd F.hp D o a = none := h3
    have ne : a ≠ D := fun z => by rw [z, upd_same] at h3; cases h3
    rw [upd_ne ne] at h3
    exact ⟨h1.up (fun _ q => q) (same_new hb), by rw [upd_ne ne]; exact h2, h3⟩
  · have ne := ne_of_none e hF
    rw [upd_ne ne]; exact O.dj a u ((upd_ne ne).trans e)
theorem Own.fromFM (O : Own K (F.put D o) M Hb H) (hF : F.hp D = none) {d : Dt} (r : MRep K H Hb D d) (hn : ∀ ps, o ≠ .tbl ps := by intro _ h; cases h) : Own K F (mput M D d) Hb H := by
  have hb : Hb D = none := O.dj D o upd_same
  refine ⟨O.same, fun b u e => O.fr b u ((upd_ne (ne_of_none e hF)).trans e), fun a d' e => ?_, fun a u e => ?_, O.backF hF hn⟩
  · by_cases h : a = D
    · subst h; rw [mput_same] at e; cases e; exact ⟨r, hb, hF⟩
    · rw [mput_ne h] at e
      obtain ⟨h1, h2, h3⟩ := O.mt a d' e
      have h3 : upd F.hp D o a = none := h3
      rw [upd_ne h] at h3
      exact ⟨h1, h2, h3⟩
  · have ne := ne_of_none e hF
    exact O.dj a u ((upd_ne ne).trans e)
theorem Own.MF (O : Own K (F.put D o) M Hb H) : M D = none := by
  cases e : M D with
  | none => rfl
  | some d =>
    have h : upd F.hp D o D = none := (O.mt D d e).2.2
    rw [upd_same] at h; cases h
end
def wipeD (ds : DSt) : List Nat → DSt
  | [] => ds
  | v :: vs => (wipeD ds vs).set v none
theorem SRep.none {K : PySem.W.Frag} {Hb : Hp} {σ : St} {ds : DSt} (h : SRep K Hb σ ds) (i : Nat) : SRep K Hb (σ.set i none) (ds.set i none) := by
  refine ⟨by rw [List.length_set, List.length_set]; exact h.1, fun j e q => ?_⟩
  by_cases hj : j = i
  · subst hj
    by_cases hl : j < ds.length
    · rw [List.getElem?_set_self hl] at q; cases q
    · rw [List.getElem?_eq_none (by simpa using hl)] at q; cases q
  · rw [List.getElem?_set_ne (Ne.symm hj)] at q
    obtain ⟨w, h1, h2⟩ := h.2 j e q
    exact ⟨w, by rw [List.getElem?_set_ne (Ne.symm hj)]; exact h1, h2⟩
theorem SRep.wipe {K : PySem.W.Frag} {Hb : Hp} {σ : St} {ds : DSt} (h : SRep K Hb σ ds) : ∀ vs : List Nat, SRep K Hb (wipe σ vs) (wipeD ds vs)
  | [] => h
  | v :: vs => (SRep.wipe h vs).none v
def dLcL (g : DTG) (tt : DTT) (te : DTE) (still : Mm → Prop) (ds : DSt) (Q : List Dt → Mm → Prop) : List Dt → List Dt → Mm → Prop
  | [], acc, M => still M ∧ Q acc M
  | x :: r, acc, M => still M ∧ g x ds M fun ds' M' => tt ds' M' fun b M2 => if b = true then te ds' M2 fun y M3 => acc.length < sizeLine ∧ dLcL g tt te still ds Q r (acc ++ [y]) M3 else dLcL g tt te still ds Q r acc M2
def dLc (m : Bool) (w : DTI) (g : DTG) (tt : DTT) (te : DTE) (vs : List Nat) : DTE := fun ds M Q => w ds M fun I M1 => dLcL g tt te I.still (wipeD ds vs) (fun acc M2 => newL m acc M2 Q) I.items [] M1
theorem dLcL_mono {g : DTG} {tt : DTT} {te : DTE} {still : Mm → Prop} {ds : DSt} {Q Q' : List Dt → Mm → Prop} (hg : ∀ {x : Dt} {ds : DSt} {M : Mm} {Q Q' : DSt → Mm → Prop}, (∀ a b, Q a b → Q' a b) → g x ds M Q → g x ds M Q')
    (ht : ∀ {ds : DSt} {M : Mm} {Q Q' : Bool → Mm → Prop}, (∀ x M', Q x M' → Q' x M') → tt ds M Q → tt ds M Q') (he : ∀ {ds : DSt} {M : Mm} {Q Q' : DQ}, (∀ x M', Q x M' → Q' x M') → te ds M Q → te ds M Q')
    (hq : ∀ a M, Q a M → Q' a M) : ∀ (l acc : List Dt) (M : Mm), dLcL g tt te still ds Q l acc M → dLcL g tt te still ds Q' l acc M := by
  intro l
  induction l with
  | nil => intro acc M h; exact ⟨h.1, hq _ _ h.2⟩
  | cons x r ih =>
    intro acc M h
    refine ⟨h.1, hg (fun ds' M' h1 => ht (fun b M2 h2 => ?_) h1) h.2⟩
    cases b
    · exact ih _ _ h2
    · exact he (fun y M3 h3 => ⟨h3.1, ih _ _ h3.2⟩) h2
section
variable {X : Cx} {G : Lk} {elt tg iter : Expr} {ifs : List Expr} {scope : Scope} {own : List (Str × Nat)} {pos spos py : Pos} {w : DTI} {g : DTG} {tt : DTT} {te : DTE}
theorem le_lc (m : Bool) {K : PySem.W.Frag} {wi : TI} {tgg : TG} {ttt : TT} {tte : TE} {vs : List Nat} (li : LI K G wi w) (lg : LW K vs tgg g) (lt : LT K Lk.any ttt tt) (le : LE K Lk.any tte te) : LE K G (tLc wi tgg ttt tte vs) (dLc m w g tt te vs) := by
  refine ⟨fun hq h => li.mono (fun I M1 h1 => dLcL_mono (g := g) (tt := tt) (te := te) lg.mono lt.mono le.mono (fun a M h => newL_mono hq h) _ _ _ h1) h, fun {F σ ds Hb H M Q} gg O S h => ?_⟩
  refine li.run gg O S (li.mono (fun I M1 h1 J Hb1 H1 s1 O1 R1 => ?_) h)
  intro D hD
  have hF : F.hp D = none := (O1.free hD).2.1
  refine ⟨fun i mm H' => mm = I.items.length - i ∧ i ≤ I.items.length ∧ ∃ acc vacc M' Hb', Same Hb1 Hb' ∧ Own K (F.put D (.lst vacc)) M' Hb' H' ∧ RepL K Hb' vacc acc ∧
      dLcL g tt te I.still (wipeD ds vs) (fun acc M2 => newL m acc M2 (Cl K F Hb Q)) (I.items.drop i) acc M', ⟨_, rfl, Nat.zero_le _, [], [], M1, Hb1, Same.refl _, O1.addF hD, .nil, h1⟩, ?_⟩
  rintro i mm H2 ⟨rfl, hi, acc, vacc, M2, Hb2, s2, O2, r2, h2⟩
  have hDH : H2 D = some (.lst vacc) := O2.fr _ _ upd_same
  cases e : I.items.drop i with
  | nil =>
    rw [e] at h2
    have hl : I.items.length ≤ i := List.drop_eq_nil_iff.mp e
    refine .inl ⟨(R1 _ Hb2 H2 M2 s2 O2 h2.1).2 i hl, ?_⟩
    cases m with
    | false =>
      have sn := same_new (o := HO.lst vacc) (O2.dj D _ upd_same)
      exact h2.2 _ _ _ ((s1.trans s2).trans sn) (O2.fromF hF) (.lst upd_same (r2.up sn))
    | true => exact h2.2 D O2.MF _ _ _ (s1.trans s2) (O2.fromFM hF (.lst hDH r2)) .cel
  | cons x r =>
    rw [e] at h2
    obtain ⟨e1, e2⟩ := drop_cons e
    have hlt : i < I.items.length := (List.getElem?_eq_some_iff.mp e1).1
    obtain ⟨go, step⟩ := (R1 _ Hb2 H2 M2 s2 O2 h2.1).1 i x e1
    refine .inr ⟨go, fun H' => ∃ acc vacc M' Hb', Same Hb1 Hb' ∧ Own K (F.put D (.lst vacc)) M' Hb' H' ∧ RepL K Hb' vacc acc ∧ dLcL g tt te I.still (wipeD ds vs) (fun acc M2 => newL m acc M2 (Cl K F Hb Q)) r acc M',
      fun H' z => ⟨I.items.length - (i + 1), by omega, rfl, hlt, by rw [e2]; exact z⟩, fun v H3 y => ?_⟩
    obtain ⟨Hb3, s3, O3, r3⟩ := step v H3 y
    have s13 := s2.trans s3
    refine lg.run O3 ((S.up (s1.trans s13)).wipe vs) r3 (lg.mono (fun ds4 M4 h4 σ4 Hb4 H4 s4 O4 S4 w4 => ?_) h2.2)
    refine ⟨w4.trans ?_, lt.run trivial O4 S4 (lt.mono (fun b M5 h5 Hb5 H5 s5 O5 => ?_) h4)⟩
    · have key : ∀ (vs ws : List Nat) (σ : St), (∀ v ∈ vs, v ∈ ws) → wipe (wipe σ vs) ws = wipe σ ws := by
        intro vs
        induction vs with
        | nil => intro ws σ _; rfl
        | cons v vs ih =>
          intro ws σ hv
          show wipe ((wipe σ vs).set v none) ws = wipe σ ws
          rw [wipe_set_mem _ (hv v List.mem_cons_self), ih ws σ fun u hu => hv u (List.mem_cons_of_mem _ hu)]
      exact key vs vs σ fun _ h => h
    · cases b with
      | false => exact ⟨acc, vacc, M5, Hb5, (s13.trans s4).trans s5, O5, r2.up ((s3.trans s4).trans s5), h5⟩
      | true =>
        refine iteT (le.run trivial O5 (S4.up s5) (le.mono (fun y M6 h6 u Hb6 H6 s6 O6 r6 => ?_) h5))
        have hDH6 : H6 D = some (.lst vacc) := O6.fr _ _ upd_same
        refine ⟨vacc, hDH6, by rw [r2.length]; exact h6.1, acc ++ [y], vacc ++ [u], M6, Hb6, ((s13.trans s4).trans s5).trans s6, O6.updF (hF := hF), ?_, h6.2⟩
        exact (r2.up (((s3.trans s4).trans s5).trans s6)).append (.cons r6 .nil)
theorem de_lc (m : Bool) (own : List (Str × Nat)) (hc : X.calm = true) (hN : X.N.Nodup) (hi : DI X G tg iter w) (hg : DGw X scope (own.map (·.2)) tg g) (ht : DTs X scope ifs tt) (he : DEb X scope elt te)
    (ok : blkC X.N X.env.scope scope own = true := by decide +kernel) (hs : ∀ x, foldedSetIterable iter X.env x = pure x := by intro _; rfl) : DE X G (.ListComp elt [⟨tg, iter, ifs, 0⟩] scope pos) (dLc m w g tt te (own.map (·.2))) := by
  obtain ⟨t1, p1, l1⟩ := hi
  obtain ⟨t2, p2, l2⟩ := hg
  obtain ⟨t3, p3, l3⟩ := ht
  exact ⟨_, pe_lc hc hN p1 (blkOk_by ok) p2 p3 (fun s H C cl fp => pe_can (he s H C cl fp)) hs, le_lc m l1 l2 l3 (le_canb he)⟩
/-- y = [..] -/
theorem ds_setLc (m : Bool) (own : List (Str × Nat)) {i : Nat} {y : Str} (hc : X.calm = true) (hN : X.N.Nodup) (hi : DI X G tg iter w) (hg : DGw X scope (own.map (·.2)) tg g) (ht : DTs X scope ifs tt) (he : DEb X scope elt te)
    (hy : X.N[i]? = some y := by rfl) (hyl : X.env.scope.names.lookup y = some .local := by rfl)
    (hsw : swapsWith (.ListComp elt [⟨tg, iter, ifs, 0⟩] scope pos) (some (.Name y py)) spos.line X.env = pure true := by exact sw_true rfl rfl rfl (by decide +kernel)) (ok : blkC X.N X.env.scope scope own = true := by decide +kernel)
    (hs : ∀ x, foldedSetIterable iter X.env x = pure x := by intro _; rfl) : DS X G (.Assign [.Name y py] (.ListComp elt [⟨tg, iter, ifs, 0⟩] scope pos) spos) (dAsg (dLc m w g tt te (own.map (·.2))) (dName i)) := by
  obtain ⟨t1, p1, l1⟩ := hi
  obtain ⟨t2, p2, l2⟩ := hg
  obtain ⟨t3, p3, l3⟩ := ht
  exact ⟨_, ps_setLc hc hN hy hyl hsw p1 (blkOk_by ok) p2 p3 (fun s H C cl fp => pe_can (he s H C cl fp)) hs, ls_asg (le_lc m l1 l2 l3 (le_canb he)) (lg_name i)⟩
end
end DL
set_option Elab.async false
set_option linter.all false
set_option maxRecDepth 100000
set_option maxHeartbeats 4000000
/-! D layer, part K: built-in calls, methods of lists and texts, stores, raise, freezing. -/
namespace DL
open PySem PySem.Spec PyProof.Rows L2

abbrev DRC := List Dt → Mm → DQ → Prop
structure LC (K : PySem.W.Frag) (r : List V → Hp → VK → Prop) (d : DRC) : Prop where
  mono : ∀ {xs : List Dt} {M : Mm} {Q Q' : DQ}, (∀ z M', Q z M' → Q' z M') → d xs M Q → d xs M Q'
  run : ∀ {F : Fo} {Hb H : Hp} {M : Mm} {xs : List Dt} {vs : List V} {Q : VK}, Own K F M Hb H → RepL K Hb vs xs → d xs M (Cl K F Hb Q) → r vs H Q
def dCB (r : DRC) (t : DTA) : DTE := fun ds M Q => t ds M fun xs M1 => r xs M1 Q
def dEitherC (p q : DRC) : DRC := fun x M Q => p x M Q ∨ q x M Q
theorem LC.or {K : PySem.W.Frag} {r r' : List V → Hp → VK → Prop} {d d' : DRC} (h : LC K r d) (h' : LC K r' d') : LC K (fun x H Q => r x H Q ∨ r' x H Q) (dEitherC d d') :=
  ⟨fun hq h0 => h0.imp (h.mono hq) (h'.mono hq), fun O rx h0 => h0.imp (h.run O rx) (h'.run O rx)⟩
theorem CallR.or {X : Cx} {f : Value} {r r' : List V → Hp → VK → Prop} (h : CallR X f r) (h' : CallR X f r') : CallR X f (fun x H Q => r x H Q ∨ r' x H Q) := by
  intro pins s σ H xs us Q I rx q
  rcases q with q | q
  · exact h pins s σ H xs us Q I rx q
  · exact h' pins s σ H xs us Q I rx q
section
variable {X : Cx} {G : Lk} {x : Str} {p pos : Pos} {e : Expr} {es : List Expr} {t : DTA} {id T : String} {r : List V → Hp → VK → Prop} {d : DRC}
theorem le_cb {K : PySem.W.Frag} {ta : TA} (la : LA K G ta t) (lc : LC K r d) : LE K G (tCB r ta) (dCB d t) := by
  refine ⟨fun hq h => la.mono (fun xs M1 h1 => lc.mono hq h1) h, fun {F σ ds Hb H M Q} g O S h => la.run g O S (la.mono (fun xs M1 h1 vs Hb1 H1 s1 O1 r1 => ?_) h)⟩
  exact lc.run O1 r1 (lc.mono (fun z M2 h2 => Cl.up s1 h2) h1)
theorem de_callB (hc : CallR X (.builtin id) r) (lc : LC X.K r d) (hg : Gl X x) (hm : X.mg x = none) (ha : DA X G (e :: es) t) (hv : bootBuiltins x = some (.builtin id) := by decide +kernel) (hn : x ≠ "__name__" := by decide) (hdb : (x == ("__debug__" : Str)) = false := by decide)
    (he : starEach (e :: es) X.env = (false, eval e X.env) :: starEach es X.env := by rfl) (hpl : (backTo pos (starEach es X.env)).any (·.1) = false := by rfl) : DE X G (.Call (.Name x p) (e :: es) [] pos) (dCB d t) := by
  obtain ⟨ta, pa, la⟩ := ha
  exact ⟨_, pe_callB hc hg hm hv pa hn hdb he hpl, le_cb la lc⟩
theorem de_callTy (hc : CallR X (.type T) r) (lc : LC X.K r d) (hg : Gl X x) (hm : X.mg x = none) (ha : DA X G (e :: es) t) (hv : bootBuiltins x = some (.type T) := by decide +kernel) (hn : x ≠ "__name__" := by decide) (hdb : (x == ("__debug__" : Str)) = false := by decide)
    (he : starEach (e :: es) X.env = (false, eval e X.env) :: starEach es X.env := by rfl) (hpl : (backTo pos (starEach es X.env)).any (·.1) = false := by rfl) : DE X G (.Call (.Name x p) (e :: es) [] pos) (dCB d t) := by
  obtain ⟨ta, pa, la⟩ := ha
  exact ⟨_, pe_callTy hc hg hm hv pa hn hdb he hpl, le_cb la lc⟩
end
/-! ### the built-ins -/
section
variable {K : PySem.W.Frag}
def lenD (M : Mm) : Dt → Option Nat
  | .str y => if y.length ≤ sizeLine then some y.length else none
  | .tup xs => some xs.length
  | x => (rview M x).map List.length
def dLen : DRC := fun xs M Q => match xs with
  | [x] => (match lenD M x with
    | some n => Q (.int (n : Int)) M
    | none => False)
  | _ => False
theorem len_run {F : Fo} {Hb H : Hp} {M : Mm} {v : V} {x : Dt} {n : Nat} (O : Own K F M Hb H) (r : Rep K Hb v x) (h : lenD M x = some n) : LenV K v H n := by
  cases r with
  | str =>
    rename_i y
    have h' : (if y.length ≤ sizeLine then some y.length else none) = some n := h
    split at h'
    · cases h'; exact ⟨by assumption, rfl⟩
    · cases h'
  | tup h1 h2 => cases h; exact .inr ⟨_, SqT.up O.same h1, h2.length.symm⟩
  | lst h1 h2 => cases h; exact .inl ⟨_, SqL.of (O.same _ _ h1), h2.length.symm⟩
  | ro h1 h2 => cases h; exact .inl ⟨_, SqL.up O.same h1, h2.length.symm⟩
  | cel =>
    rename_i a
    obtain ⟨xs, e1, e2⟩ := Option.map_eq_some_iff.mp (show (rview M (.cel a)).map List.length = some n from h)
    obtain ⟨b, vs, e, h1, h2⟩ := rview_run O (.cel) e1
    cases e
    exact .inl ⟨_, h1, by rw [← e2, h2.length]⟩
  | _ => cases h
theorem lc_len : LC K (fun xs H Q => ∃ x n, xs = [x] ∧ LenV K x H n ∧ Q (.int n) H) dLen := by
  refine ⟨fun {xs M Q Q'} hq h => ?_, fun {F Hb H M xs vs Q} O r h => ?_⟩
  · unfold dLen at h ⊢
    split at h
    · split at h
      · exact hq _ _ h
      · exact h.elim
    · exact h.elim
  · unfold dLen at h
    split at h
    · split at h
      · rename_i n e
        cases r with
        | cons r1 r2 => cases r2; exact ⟨_, n, rfl, len_run O r1 e, h _ _ _ (Same.refl _) O .int⟩
      · exact h.elim
    · exact h.elim
/-- sum of ints -/
def intsD : List Dt → Option (List Int)
  | [] => some []
  | .int i :: r => (intsD r).map (i :: ·)
  | _ => none
theorem intsD_map : ∀ (ns : List Int), intsD (ns.map .int) = some ns
  | [] => rfl
  | n :: r => by show (intsD (r.map .int)).map (n :: ·) = _; rw [intsD_map r]; rfl
theorem intsD_rep {H : Hp} : ∀ {xs : List Dt} {ns : List Int} {vs : List V}, intsD xs = some ns → RepL K H vs xs → vs = ns.map V.int
  | [], _, _, e, r => by cases e; cases r; rfl
  | .int i :: xs, _, _, e, r => by
    obtain ⟨ms, e1, e2⟩ := Option.map_eq_some_iff.mp (show (intsD xs).map (i :: ·) = some _ from e)
    subst e2
    cases r with
    | cons r1 r2 => cases r1; rw [intsD_rep e1 r2]; rfl
  | .non :: _, _, _, e, _ => by cases e
  | .bl _ :: _, _, _, e, _ => by cases e
  | .str _ :: _, _, _, e, _ => by cases e
  | .tup _ :: _, _, _, e, _ => by cases e
  | .lst _ :: _, _, _, e, _ => by cases e
  | .ro _ :: _, _, _, e, _ => by cases e
  | .dic _ :: _, _, _, e, _ => by cases e
  | .obj _ _ :: _, _, _, e, _ => by cases e
  | .cel _ :: _, _, _, e, _ => by cases e
def dSum : DRC := fun xs M Q => match xs with
  | [x] => (match (rview M x).bind intsD with
    | some ns => Q (.int ns.sum) M
    | none => False)
  | _ => False
theorem lc_sum : LC K (rSum K) dSum := by
  refine ⟨fun {xs M Q Q'} hq h => ?_, fun {F Hb H M xs vs Q} O r h => ?_⟩
  · unfold dSum at h ⊢
    split at h
    · split at h
      · exact hq _ _ h
      · exact h.elim
    · exact h.elim
  · unfold dSum at h
    split at h
    · split at h
      · rename_i ns e
        obtain ⟨l, e1, e2⟩ := Option.bind_eq_some_iff.mp e
        cases r with
        | cons r1 r2 =>
          cases r2
          obtain ⟨a, ws, rfl, h1, h2⟩ := rview_run O r1 e1
          have := intsD_rep e2 h2
          subst this
          exact ⟨a, ns, rfl, h1, h _ _ _ (Same.refl _) O .int⟩
      · exact h.elim
    · exact h.elim
/-- int of an int, a bool, a text -/
def dInt : DRC := fun xs M Q => match xs with
  | [.int i] => Q (.int i) M
  | [.bl k] => Q (.int (if k then 1 else 0)) M
  | [.str a] => ∃ n, PySem.intText? a = some n ∧ a.length ≤ 640 ∧ Q (.int n) M
  | _ => False
theorem lc_int : LC K (fun xs H Q => ((∃ i, xs = [.int i] ∧ Q (.int i) H) ∨ ∃ k, xs = [.bl k] ∧ Q (.int (if k then 1 else 0)) H) ∨ ∃ a n, xs = [.str a] ∧ PySem.intText? a = some n ∧ a.length ≤ 640 ∧ Q (.int n) H) dInt := by
  refine ⟨fun {xs M Q Q'} hq h => ?_, fun {F Hb H M xs vs Q} O r h => ?_⟩
  · unfold dInt at h ⊢
    split at h
    · exact hq _ _ h
    · exact hq _ _ h
    · obtain ⟨n, h1, h2, h3⟩ := h; exact ⟨n, h1, h2, hq _ _ h3⟩
    · exact h.elim
  · unfold dInt at h
    split at h
    · cases r with | cons r1 r2 => cases r1; cases r2; exact .inl (.inl ⟨_, rfl, h _ _ _ (Same.refl _) O .int⟩)
    · cases r with | cons r1 r2 => cases r1; cases r2; exact .inl (.inr ⟨_, rfl, h _ _ _ (Same.refl _) O .int⟩)
    · obtain ⟨n, h1, h2, h3⟩ := h
      cases r with | cons r1 r2 => cases r1; cases r2; exact .inr ⟨_, n, rfl, h1, h2, h3 _ _ _ (Same.refl _) O .int⟩
    · exact h.elim
theorem callx_int {X : Cx} : CallR X (.type "int") (fun xs H Q => ((∃ i, xs = [.int i] ∧ Q (.int i) H) ∨ ∃ k, xs = [.bl k] ∧ Q (.int (if k then 1 else 0)) H) ∨ ∃ a n, xs = [.str a] ∧ PySem.intText? a = some n ∧ a.length ≤ 640 ∧ Q (.int n) H) := CallR.or call_int1 call_int_str
/-- str of an int -/
def dStr : DRC := fun xs M Q => match xs with
  | [.int i] => i.natAbs.log2 < 1920 ∧ Q (.str (toString i)) M
  | _ => False
theorem lc_str : LC K (fun xs H Q => ∃ i, xs = [.int i] ∧ i.natAbs.log2 < 1920 ∧ Q (.str (toString i)) H) dStr := by
  refine ⟨fun {xs M Q Q'} hq h => ?_, fun {F Hb H M xs vs Q} O r h => ?_⟩
  · unfold dStr at h ⊢
    split at h
    · exact ⟨h.1, hq _ _ h.2⟩
    · exact h.elim
  · unfold dStr at h
    split at h
    · cases r with | cons r1 r2 => cases r1; cases r2; exact ⟨_, rfl, h.1, h.2 _ _ _ (Same.refl _) O .str⟩
    · exact h.elim
/-- abs -/
def dAbs : DRC := fun xs M Q => match xs with
  | [.int i] => Q (.int (if i < 0 then -i else i)) M
  | _ => False
theorem lc_abs : LC K (fun xs H Q => ∃ i, xs = [.int i] ∧ Q (.int (if i < 0 then -i else i)) H) dAbs := by
  refine ⟨fun {xs M Q Q'} hq h => ?_, fun {F Hb H M xs vs Q} O r h => ?_⟩
  · unfold dAbs at h ⊢
    split at h
    · exact hq _ _ h
    · exact h.elim
  · unfold dAbs at h
    split at h
    · cases r with | cons r1 r2 => cases r1; cases r2; exact ⟨_, rfl, h _ _ _ (Same.refl _) O .int⟩
    · exact h.elim
def dMM (g : Int → Int → Int) : DRC := fun xs M Q => match xs with
  | [.int i, .int j] => Q (.int (g i j)) M
  | _ => False
theorem lc_mm (g : Int → Int → Int) : LC K (fun xs H Q => ∃ i j, xs = [.int i, .int j] ∧ Q (.int (g i j)) H) (dMM g) := by
  refine ⟨fun {xs M Q Q'} hq h => ?_, fun {F Hb H M xs vs Q} O r h => ?_⟩
  · unfold dMM at h ⊢
    split at h
    · exact hq _ _ h
    · exact h.elim
  · unfold dMM at h
    split at h
    · cases r with
      | cons r1 r2 => cases r1; cases r2 with
        | cons r3 r4 => cases r3; cases r4; exact ⟨_, _, rfl, h _ _ _ (Same.refl _) O .int⟩
    · exact h.elim
abbrev dMax2 : DRC := dMM fun i j => if j > i then j else i
abbrev dMin2 : DRC := dMM fun i j => if j < i then j else i
/-- list, tuple -/
def seqD (M : Mm) : Dt → Option (List Dt)
  | .tup xs => some xs
  | x => rview M x
theorem seq_run {F : Fo} {Hb H : Hp} {M : Mm} {v : V} {x : Dt} {xs : List Dt} (O : Own K F M Hb H) (r : Rep K Hb v x) (h : seqD M x = some xs) : ∃ a vs, v = .ref a ∧ (SqL K H a vs ∨ SqT K H a vs) ∧ RepL K Hb vs xs := by
  cases x with
  | tup ys =>
    cases h
    cases r with
    | tup h1 h2 => exact ⟨_, _, rfl, .inr (SqT.up O.same h1), h2⟩
  | _ =>
    obtain ⟨a, vs, e, h1, h2⟩ := rview_run O r h
    exact ⟨a, vs, e, .inl h1, h2⟩
def dList (m : Bool) : DRC := fun xs M Q => match xs with
  | [x] => (match seqD M x with
    | some l => newL m l M Q
    | none => False)
  | _ => False
theorem lc_list (m : Bool) : LC K (fun xs H Q => ∃ p ys, xs = [.ref p] ∧ (SqL K H p ys ∨ SqT K H p ys) ∧ ∀ l, H l = none → Q (.ref l) (upd H l (.lst ys))) (dList m) := by
  refine ⟨fun {xs M Q Q'} hq h => ?_, fun {F Hb H M xs vs Q} O r h => ?_⟩
  · unfold dList at h ⊢
    split at h
    · split at h
      · exact newL_mono hq h
      · exact h.elim
    · exact h.elim
  · unfold dList at h
    split at h
    · split at h
      · rename_i l e
        cases r with
        | cons r1 r2 =>
          cases r2
          obtain ⟨a, ws, rfl, h1, h2⟩ := seq_run O r1 e
          exact ⟨a, ws, rfl, h1, newL_run O h2 h⟩
      · exact h.elim
    · exact h.elim
def dTuple : DRC := fun xs M Q => match xs with
  | [x] => (match seqD M x with
    | some l => Q (.tup l) M
    | none => False)
  | _ => False
theorem lc_tuple : LC K (fun xs H Q => ∃ p ys, xs = [.ref p] ∧ ((SqL K H p ys ∧ ∀ l, H l = none → Q (.ref l) (upd H l (.tup ys))) ∨ (SqT K H p ys ∧ Q (.ref p) H))) dTuple := by
  refine ⟨fun {xs M Q Q'} hq h => ?_, fun {F Hb H M xs vs Q} O r h => ?_⟩
  · unfold dTuple at h ⊢
    split at h
    · split at h
      · exact hq _ _ h
      · exact h.elim
    · exact h.elim
  · unfold dTuple at h
    split at h
    · rename_i x
      split at h
      · rename_i l e
        cases r with
        | cons r1 r2 =>
          cases r2
          cases x with
          | tup ys =>
            cases e
            cases r1 with
            | tup h1 h2 => exact ⟨_, _, rfl, .inr ⟨SqT.up O.same h1, h _ _ _ (Same.refl _) O (.tup h1 h2)⟩⟩
          | _ =>
            obtain ⟨a, ws, rfl, h1, h2⟩ := rview_run O r1 e
            exact ⟨a, ws, rfl, .inl ⟨h1, tup_run O h2 h⟩⟩
      · exact h.elim
    · exact h.elim
end
/-! ### isinstance -/
/-- a value's built-in type -/
def tyD (M : Mm) : Dt → Option String
  | .non => some "NoneType"
  | .bl _ => some "bool"
  | .int _ => some "int"
  | .str _ => some "str"
  | .tup _ => some "tuple"
  | .lst _ => some "list"
  | .ro _ => some "list"
  | .dic _ => some "dict"
  | .obj _ _ => none
  | .cel a => match M a with
    | some (.lst _) => some "list"
    | some (.dic _) => some "dict"
    | _ => none
theorem ty_run {K : PySem.W.Frag} {F : Fo} {Hb H : Hp} {M : Mm} {v : V} {x : Dt} {T : String} (O : Own K F M Hb H) (r : Rep K Hb v x) (h : tyD M x = some T) : TyX K H v (.type T) := by
  have lst : ∀ {a : Addr} {vs : List V}, SqL K H a vs → TyX K H (.ref a) (.type "list") := fun {a vs} q => by
    rcases q with (q | ⟨o, q⟩) | ⟨o, its, n, h1, h2, _⟩
    · exact .base (.lst q)
    · exact .base (.frz q)
    · exact .kList h1 h2
  have tup : ∀ {a : Addr} {vs : List V}, SqT K H a vs → TyX K H (.ref a) (.type "tuple") := fun {a vs} q => by
    rcases q with (q | ⟨o, q⟩) | ⟨o, its, n, h1, h2, _⟩
    · exact .base (.tup q)
    · exact .fTuple q
    · exact .kTuple h1 h2
  cases r with
  | non => cases h; exact .base .non
  | bl => cases h; exact .base (.bl _)
  | int => cases h; exact .base (.int _)
  | str => cases h; exact .base (.str _)
  | tup h1 h2 => cases h; exact tup (SqT.up O.same h1)
  | lst h1 h2 => cases h; exact lst (SqL.of (O.same _ _ h1))
  | ro h1 h2 => cases h; exact lst (SqL.up O.same h1)
  | dic h1 h2 => cases h; exact .base (.dK (O.same _ _ h1))
  | obj _ _ => cases h
  | cel =>
    rename_i a
    have h' : (match M a with | some (.lst _) => some "list" | some (.dic _) => some "dict" | _ => none) = some T := h
    cases e : M a with
    | none => rw [e] at h'; cases h'
    | some d =>
      rw [e] at h'
      have q := (O.mt a d e).1
      cases q with
      | lst q1 q2 => cases h'; exact lst (SqL.of q1)
      | dic q1 q2 => cases h'; exact .base (.dK q1)
      | obj _ _ => cases h'
def kitS (a b : String) : Option Bool := kitB a b
def dIsi (T : String) (t : DTE) : DTE := fun ds M Q => t ds M fun x M1 => match (tyD M1 x).bind fun a => kitS a T with
  | some b => Q (.bl b) M1
  | none => False
section
variable {X : Cx} {G : Lk} {e : Expr} {t : DTE} {p p2 pos : Pos} {n : Str} {T : String}
theorem de_isi (h : DE X G e t) (hg : Gl X "isinstance") (hm : X.mg "isinstance" = none) (hgT : Gl X n) (hmT : X.mg n = none) (hv : bootBuiltins n = some (.type T) := by decide +kernel) (hn : n ≠ "__name__" := by decide) (hdb : (n == ("__debug__" : Str)) = false := by decide)
    (he : starEach [e, .Name n p2] X.env = (false, eval e X.env) :: starEach [.Name n p2] X.env := by rfl) (hs2 : starEach [.Name n p2] X.env = [(false, eval (.Name n p2) X.env)] := by rfl) : DE X G (.Call (.Name "isinstance" p) [e, .Name n p2] [] pos) (dIsi T t) := by
  obtain ⟨ta, pa, la⟩ := h
  refine ⟨_, pe_callB call_isi hg hm (by decide +kernel) (pa_cons pa (pa_cons (pe_bltn (v := .ty T) hgT hmT hv rfl hn hdb) pa_nil hs2) he) (by decide) (by decide) he (by rw [hs2]; rfl), ⟨fun hq h => la.mono (fun x M1 h1 => ?_) h, fun {F σ ds Hb H M Q} g O S h => la.run g O S (la.mono (fun x M1 h1 v Hb1 H1 s1 O1 r1 => ?_) h)⟩⟩
  · split at h1
    · exact hq _ _ h1
    · exact h1.elim
  · split at h1
    · rename_i b eb
      obtain ⟨a, e1, e2⟩ := Option.bind_eq_some_iff.mp eb
      exact ⟨v, .ty T, .type a, .type T, b, rfl, .ty T, ty_run O1 r1 e1, kit_ty e2, h1 _ _ _ s1 O1 .bl⟩
    · exact h1.elim
/-- isinstance(x, (T1, T2)) -/
def dIsi2 (T1 T2 : String) (t : DTE) : DTE := fun ds M Q => t ds M fun x M1 => ∃ a b1 b2, tyD M1 x = some a ∧ kitS a T1 = some b1 ∧ kitS a T2 = some b2 ∧ Q (.bl (b1 || b2)) M1
theorem de_isi2 {n2 : Str} {T2 : String} {p3 p4 : Pos} {k : Nat} (h : DE X G e t) (hg : Gl X "isinstance") (hm : X.mg "isinstance" = none) (hgT : Gl X n) (hmT : X.mg n = none) (hgT2 : Gl X n2) (hmT2 : X.mg n2 = none) (hv : bootBuiltins n = some (.type T) := by decide +kernel) (hn : n ≠ "__name__" := by decide) (hdb : (n == ("__debug__" : Str)) = false := by decide)
    (hv2 : bootBuiltins n2 = some (.type T2) := by decide +kernel) (hn2 : n2 ≠ "__name__" := by decide) (hdb2 : (n2 == ("__debug__" : Str)) = false := by decide)
    (he : starEach [e, .Tuple [.Name n p2, .Name n2 p3] k p4] X.env = (false, eval e X.env) :: starEach [.Tuple [.Name n p2, .Name n2 p3] k p4] X.env := by rfl) (hs2 : starEach [.Tuple [.Name n p2, .Name n2 p3] k p4] X.env = [(false, eval (.Tuple [.Name n p2, .Name n2 p3] k p4) X.env)] := by rfl)
    (hs3 : starEach [.Name n p2, .Name n2 p3] X.env = (false, eval (.Name n p2) X.env) :: starEach [.Name n2 p3] X.env := by rfl) (hs4 : starEach [.Name n2 p3] X.env = [(false, eval (.Name n2 p3) X.env)] := by rfl) :
    DE X G (.Call (.Name "isinstance" p) [e, .Tuple [.Name n p2, .Name n2 p3] k p4] [] pos) (dIsi2 T T2 t) := by
  obtain ⟨ta, pa, la⟩ := h
  refine ⟨_, pe_callB call_isiT hg hm (by decide +kernel) (pa_cons pa (pa_cons (pe_tup (pa_cons (pe_bltn (v := .ty T) hgT hmT hv rfl hn hdb) (pa_cons (pe_bltn (v := .ty T2) hgT2 hmT2 hv2 rfl hn2 hdb2) pa_nil hs4) hs3)) pa_nil hs2) he) (by decide) (by decide) he (by rw [hs2]; rfl),
    ⟨fun hq h => la.mono (fun x M1 ⟨a, b1, b2, h1, h2, h3, h4⟩ => ⟨a, b1, b2, h1, h2, h3, hq _ _ h4⟩) h, fun {F σ ds Hb H M Q} g O S h => la.run g O S (la.mono (fun x M1 ⟨a, b1, b2, h1, h2, h3, h4⟩ v Hb1 H1 s1 O1 r1 => ?_) h)⟩⟩
  refine ⟨(by show 2 ≤ sizeLine; decide), fun q hq => ?_⟩
  have hH : Same H1 (upd H1 q (.tup [.ty T, .ty T2])) := same_new hq
  have O2 : Own X.K F M1 Hb1 (upd H1 q (.tup [.ty T, .ty T2])) := O1.ext hq
  refine ⟨v, q, [.ty T, .ty T2], .type a, [.type T, .type T2], (b1 || b2), rfl, upd_same, .cons (.ty T) (.cons (.ty T2) .nil), ty_run O2 r1 h1, ?_, h4 _ _ _ s1 O2 .bl⟩
  cases b1 with
  | true => exact kitAny_cons (kit_ty h2) (fun z => by cases z) fun _ => rfl
  | false => exact kitAny_cons (kit_ty h2) (fun _ => kitAny_cons (r := b2) (kit_ty h3) (fun z => by rw [z]; exact kitAny_nil) fun z => z) fun z => by cases z
end
/-! ### methods -/
abbrev DRM := Dt → List Dt → Mm → DQ → Prop
structure LM (K : PySem.W.Frag) (T : String) (r : V → List V → Hp → VK → Prop) (d : DRM) : Prop where
  mono : ∀ {x : Dt} {xs : List Dt} {M : Mm} {Q Q' : DQ}, (∀ z M', Q z M' → Q' z M') → d x xs M Q → d x xs M Q'
  run : ∀ {F : Fo} {Hb H : Hp} {M : Mm} {x : Dt} {xs : List Dt} {v : V} {vs : List V} {Q : VK}, Own K F M Hb H → Rep K Hb v x → RepL K Hb vs xs → d x xs M (Cl K F Hb Q) → r v vs H Q
def isTyM (T : String) (x : Dt) (M : Mm) : Prop := match x with
  | .str _ => T = "str"
  | x => T = "list" ∧ ∃ xs, rview M x = some xs
theorem isTyM_run {K : PySem.W.Frag} {F : Fo} {Hb H : Hp} {M : Mm} {T : String} {v : V} {x : Dt} (O : Own K F M Hb H) (r : Rep K Hb v x) (h : isTyM T x M) : tyV K T v H := by
  cases x with
  | str z => cases r; exact h
  | _ =>
    obtain ⟨e, xs, h⟩ := h
    obtain ⟨a, vs, rfl, h1, h2⟩ := rview_run O r h
    exact .inl ⟨e, _, h1⟩
def dBM (T : String) (r : DRM) (to : DTE) (t : DTA) : DTE := fun ds M Q => to ds M fun x M1 => isTyM T x M1 ∧ t ds M1 fun xs M2 => r x xs M2 Q
def dBM0 (T : String) (r : DRM) (to : DTE) : DTE := fun ds M Q => to ds M fun x M1 => isTyM T x M1 ∧ r x [] M1 Q
section
variable {X : Cx} {G : Lk} {o e : Expr} {es : List Expr} {to : DTE} {t : DTA} {name : Str} {apos cpos : Pos} {T id : String} {r : V → List V → Hp → VK → Prop} {d : DRM}
theorem de_bm (pa : PlainAttrs T) (slot : Slot T name id) (hty : typeOf (.builtin id) = pure (.type "method_descriptor")) (hm : MtR X id r) (lm : LM X.K T r d) (ho : DE X G o to) (ha : DA X G (e :: es) t)
    (hbase : attributeBase o name X.env (eval o X.env) = eval o X.env := by rfl)
    (hfew : ((backTo cpos (starEach (e :: es) X.env)).all (fun x => !x.1) && (backToKw cpos (keywordEach [] X.env)).all (fun x => x.1.isSome)
      && decide ((e :: es).length + ([] : List Keyword).length + (if ([] : List Keyword).isEmpty then 0 else 1) < 30)) = true := by rfl)
    (hline : (apos.endLine == cpos.line) = true := by rfl) (hs : starEach (e :: es) X.env = (false, eval e X.env) :: starEach es X.env := by rfl) (hplain : (backTo cpos (starEach es X.env)).any (·.1) = false := by rfl) :
    DE X G (.Call (.Attribute o name apos) (e :: es) [] cpos) (dBM T d to t) := by
  obtain ⟨t1, p1, l1⟩ := ho
  obtain ⟨t2, p2, l2⟩ := ha
  refine ⟨_, pe_bm pa slot hty hm p1 p2 hbase hfew hline hs hplain, ⟨fun hq h => l1.mono (fun x M1 h1 => ⟨h1.1, l2.mono (fun xs M2 h2 => lm.mono hq h2) h1.2⟩) h, fun {F σ ds Hb H M Q} g O S h => l1.run g O S (l1.mono (fun x M1 h1 v Hb1 H1 s1 O1 r1 => ?_) h)⟩⟩
  refine ⟨isTyM_run O1 r1 h1.1, l2.run (G.up g s1) O1 (S.up s1) (l2.mono (fun xs M2 h2 vs Hb2 H2 s2 O2 r2 => ?_) h1.2)⟩
  exact lm.run O2 (r1.up s2) r2 (lm.mono (fun z M3 h3 => Cl.up (s1.trans s2) h3) h2)
theorem de_bm0 (pa : PlainAttrs T) (slot : Slot T name id) (hty : typeOf (.builtin id) = pure (.type "method_descriptor")) (hm : MtR X id r) (lm : LM X.K T r d) (ho : DE X G o to)
    (hbase : attributeBase o name X.env (eval o X.env) = eval o X.env := by rfl) (hline : (apos.endLine == cpos.line) = true := by rfl) : DE X G (.Call (.Attribute o name apos) [] [] cpos) (dBM0 T d to) := by
  obtain ⟨t1, p1, l1⟩ := ho
  refine ⟨_, pe_bm0 pa slot hty hm p1 hbase hline, ⟨fun hq h => l1.mono (fun x M1 h1 => ⟨h1.1, lm.mono hq h1.2⟩) h, fun {F σ ds Hb H M Q} g O S h => l1.run g O S (l1.mono (fun x M1 h1 v Hb1 H1 s1 O1 r1 => ?_) h)⟩⟩
  exact ⟨isTyM_run O1 r1 h1.1, lm.run O1 r1 .nil (lm.mono (fun z M3 h3 => Cl.up s1 h3) h1.2)⟩
end
/-- a list that may change -/
def cellL (M : Mm) : Dt → Option (Addr × List Dt)
  | .cel a => match M a with
    | some (.lst xs) => some (a, xs)
    | _ => none
  | _ => none
theorem cellL_of {M : Mm} {a : Addr} {xs : List Dt} (h : M a = some (.lst xs)) : cellL M (.cel a) = some (a, xs) := by
  show (match M a with | some (.lst xs) => some (a, xs) | _ => none) = _
  rw [h]
section
variable {K : PySem.W.Frag} {F : Fo} {Hb H : Hp} {M : Mm} {v : V} {x : Dt} {a : Addr} {xs : List Dt}
theorem cellL_run (O : Own K F M Hb H) (r : Rep K Hb v x) (h : cellL M x = some (a, xs)) : v = .ref a ∧ M a = some (.lst xs) ∧ ∃ vs, H a = some (.lst vs) ∧ RepL K Hb vs xs := by
  cases x with
  | cel b =>
    have h' : (match M b with | some (.lst xs) => some (b, xs) | _ => none) = some (a, xs) := h
    cases e : M b with
    | none => rw [e] at h'; cases h'
    | some d =>
      rw [e] at h'
      have q := (O.mt b d e).1
      cases q with
      | lst q1 q2 => cases h'; cases r; exact ⟨rfl, e, _, q1, q2⟩
      | dic _ _ => cases h'
      | obj _ _ => cases h'
  | _ => cases h
def dAppend : DRM := fun x vs M Q => match cellL M x, vs with
  | some (a, xs), [y] => xs.length < sizeLine ∧ Q .non (mput M a (.lst (xs ++ [y])))
  | _, _ => False
theorem lm_append : LM K "list" rAppend dAppend := by
  refine ⟨fun {x vs M Q Q'} hq h => ?_, fun {F Hb H M x xs v vs Q} O r rs h => ?_⟩
  · unfold dAppend at h ⊢
    split at h
    · exact ⟨h.1, hq _ _ h.2⟩
    · exact h.elim
  · unfold dAppend at h
    split at h
    · rename_i a l y e
      obtain ⟨rfl, e2, ws, h1, h2⟩ := cellL_run O r e
      cases rs with
      | cons r1 r2 =>
        cases r2
        exact ⟨a, ws, _, rfl, rfl, h1, by rw [h2.length]; exact h.1, h.2 _ _ _ (Same.refl _) (O.wr e2 (.lst upd_same (h2.append (.cons r1 .nil)))) .non⟩
    · exact h.elim
def dExtend : DRM := fun x vs M Q => match cellL M x, vs with
  | some (a, xs), [y] => (match lview M y with
    | some ys => xs.length + ys.length ≤ sizeLine ∧ Q .non (mput M a (.lst (xs ++ ys)))
    | none => False)
  | _, _ => False
theorem lm_extend : LM K "list" rExtend dExtend := by
  refine ⟨fun {x vs M Q Q'} hq h => ?_, fun {F Hb H M x xs v vs Q} O r rs h => ?_⟩
  · unfold dExtend at h ⊢
    split at h
    · split at h
      · exact ⟨h.1, hq _ _ h.2⟩
      · exact h.elim
    · exact h.elim
  · unfold dExtend at h
    split at h
    · rename_i a l y e
      split at h
      · rename_i ys e3
        obtain ⟨rfl, e2, ws, h1, h2⟩ := cellL_run O r e
        cases rs with
        | cons r1 r2 =>
          cases r2
          obtain ⟨b, us, rfl, h3, h4⟩ := lview_run O r1 e3
          exact ⟨a, b, ws, us, rfl, rfl, h1, h3, by rw [h2.length, h4.length]; exact h.1, h.2 _ _ _ (Same.refl _) (O.wr e2 (.lst upd_same (h2.append h4))) .non⟩
      · exact h.elim
    · exact h.elim
def dInsert : DRM := fun x vs M Q => match cellL M x, vs with
  | some (a, xs), [.int i, y] => xs.length < sizeLine ∧ 0 ≤ i ∧ i < 2 ^ 63 ∧ Q .non (mput M a (.lst (xs.take i.toNat ++ [y] ++ xs.drop i.toNat)))
  | _, _ => False
theorem lm_insert : LM K "list" (fun x vs H Q => ∃ (l : Addr) (xs : List V) (i : Int) (y : V), x = .ref l ∧ vs = [.int i, y] ∧ H l = some (.lst xs) ∧ xs.length < sizeLine ∧ 0 ≤ i ∧ i < 2 ^ 63 ∧
    Q .non (upd H l (.lst (xs.take i.toNat ++ [y] ++ xs.drop i.toNat)))) dInsert := by
  refine ⟨fun {x vs M Q Q'} hq h => ?_, fun {F Hb H M x xs v vs Q} O r rs h => ?_⟩
  · unfold dInsert at h ⊢
    split at h
    · exact ⟨h.1, h.2.1, h.2.2.1, hq _ _ h.2.2.2⟩
    · exact h.elim
  · unfold dInsert at h
    split at h
    · rename_i a l i y e
      obtain ⟨rfl, e2, ws, h1, h2⟩ := cellL_run O r e
      cases rs with
      | cons r1 r2 =>
        cases r1
        cases r2 with
        | cons r3 r4 =>
          cases r4
          exact ⟨a, ws, i, _, rfl, rfl, h1, by rw [h2.length]; exact h.1, h.2.1, h.2.2.1, h.2.2.2 _ _ _ (Same.refl _) (O.wr e2 (.lst upd_same (((h2.take _).append (.cons r3 .nil)).append (h2.drop _)))) .non⟩
    · exact h.elim
def dReverse : DRM := fun x vs M Q => match cellL M x, vs with
  | some (a, xs), [] => Q .non (mput M a (.lst xs.reverse))
  | _, _ => False
theorem lm_reverse : LM K "list" rReverse dReverse := by
  refine ⟨fun {x vs M Q Q'} hq h => ?_, fun {F Hb H M x xs v vs Q} O r rs h => ?_⟩
  · unfold dReverse at h ⊢
    split at h
    · exact hq _ _ h
    · exact h.elim
  · unfold dReverse at h
    split at h
    · rename_i a l e
      obtain ⟨rfl, e2, ws, h1, h2⟩ := cellL_run O r e
      cases rs
      exact ⟨a, ws, rfl, rfl, h1, h _ _ _ (Same.refl _) (O.wr e2 (.lst upd_same h2.reverse)) .non⟩
    · exact h.elim
/-- sep.join(texts) -/
def strsD : List Dt → Option (List Str)
  | [] => some []
  | .str i :: r => (strsD r).map (i :: ·)
  | _ => none
theorem strsD_map : ∀ (ns : List Str), strsD (ns.map .str) = some ns
  | [] => rfl
  | n :: r => by show (strsD (r.map .str)).map (n :: ·) = _; rw [strsD_map r]; rfl
theorem strsD_rep {H : Hp} : ∀ {xs : List Dt} {ns : List Str} {vs : List V}, strsD xs = some ns → RepL K H vs xs → vs = ns.map V.str
  | [], _, _, e, r => by cases e; cases r; rfl
  | .str i :: xs, _, _, e, r => by
    obtain ⟨ms, e1, e2⟩ := Option.map_eq_some_iff.mp (show (strsD xs).map (i :: ·) = some _ from e)
    subst e2
    cases r with
    | cons r1 r2 => cases r1; rw [strsD_rep e1 r2]; rfl
  | .non :: _, _, _, e, _ => by cases e
  | .bl _ :: _, _, _, e, _ => by cases e
  | .int _ :: _, _, _, e, _ => by cases e
  | .tup _ :: _, _, _, e, _ => by cases e
  | .lst _ :: _, _, _, e, _ => by cases e
  | .ro _ :: _, _, _, e, _ => by cases e
  | .dic _ :: _, _, _, e, _ => by cases e
  | .obj _ _ :: _, _, _, e, _ => by cases e
  | .cel _ :: _, _, _, e, _ => by cases e
def dJoin : DRM := fun x vs M Q => match x, vs with
  | .str a, [y] => (match (seqD M y).bind strsD with
    | some ys => (ys.map (·.length)).sum + ys.length * a.length ≤ 16777216 ∧ Q (.str (Txt.join a ys)) M
    | none => False)
  | _, _ => False
theorem lm_join : LM K "str" (fun x xs H Q => ∃ a p, ∃ ys : List Str, x = .str a ∧ xs = [.ref p] ∧ (SqL K H p (ys.map V.str) ∨ SqT K H p (ys.map V.str)) ∧
    (ys.map (·.length)).sum + ys.length * a.length ≤ 16777216 ∧ Q (.str (Txt.join a ys)) H) dJoin := by
  refine ⟨fun {x vs M Q Q'} hq h => ?_, fun {F Hb H M x xs v vs Q} O r rs h => ?_⟩
  · unfold dJoin at h ⊢
    split at h
    · split at h
      · exact ⟨h.1, hq _ _ h.2⟩
      · exact h.elim
    · exact h.elim
  · unfold dJoin at h
    split at h
    · split at h
      · rename_i ys e
        obtain ⟨l, e1, e2⟩ := Option.bind_eq_some_iff.mp e
        cases r
        cases rs with
        | cons r1 r2 =>
          cases r2
          obtain ⟨b, ws, rfl, h1, h2⟩ := seq_run O r1 e1
          have := strsD_rep e2 h2
          subst this
          exact ⟨_, b, ys, rfl, rfl, h1, h.1, h.2 _ _ _ (Same.refl _) O .str⟩
      · exact h.elim
    · exact h.elim
end
end DL
set_option Elab.async false
set_option linter.all false
set_option maxRecDepth 100000
set_option maxHeartbeats 4000000
/-! D layer, part L: stores, raise, a def's body. -/
namespace DL
open PySem PySem.Spec PyProof.Rows L2

/-! ### xs[i] = v, o.f = v -/
def dSub (to ti : DTE) : DTG := fun v ds M Q => to ds M fun o M1 => ti ds M1 fun i M2 => ∃ p xs k j, o = .cel p ∧ i = .int k ∧ M2 p = some (.lst xs) ∧ ixN xs.length k = some j ∧ Q ds (mput M2 p (.lst (xs.set j v)))
def dSetF (c f : Str) (to tv : DTE) : DTS := fun D ds M => tv ds M fun y M1 => to ds M1 fun x M2 => ∃ a fs, x = .cel a ∧ M2 a = some (.obj c fs) ∧ fs.length < 1000 ∧ D.nx ds (mput M2 a (.obj c (putD f y fs)))
section
variable {X : Cx} {G : Lk} {o i e value : Expr} {to ti tv : DTE} {pos pos' : Pos}
theorem dg_sub (ho : DE X G o to) (hi : DE X G i ti)
    (ha : ∀ v, assign (.Subscript o i pos) X.env v = (do
      let ov ← holding [v] (eval o X.env)
      let iv ← holding [v, ov] (eval i X.env)
      standAt pos
      holding [v, ov, iv] (setItem ov iv v)
      release [v, ov, iv] []) := by intro _; rfl) : DGt X G (.Subscript o i pos) (dSub to ti) := by
  obtain ⟨ta, pa, la⟩ := ho
  obtain ⟨tb, pb, lb⟩ := hi
  refine ⟨_, pg_sub pa pb set_list ha, ⟨fun hq h => la.mono (fun o M1 h1 => lb.mono (fun i M2 ⟨p, xs, k, j, h2, h3, h4, h5, h6⟩ => ⟨p, xs, k, j, h2, h3, h4, h5, hq _ _ h6⟩) h1) h, fun {F σ ds Hb H M v x Q} g O S r h => ?_⟩⟩
  refine la.run g O S (la.mono (fun y M1 h1 w Hb1 H1 s1 O1 r1 => ?_) h)
  refine lb.run (G.up g s1) O1 (S.up s1) (lb.mono (fun z M2 h2 u Hb2 H2 s2 O2 r2 => ?_) h1)
  obtain ⟨p, xs, k, j, rfl, rfl, h3, h4, h5⟩ := h2
  cases r1
  cases r2
  obtain ⟨m1, m2, m3⟩ := O2.mt _ _ h3
  cases m1 with
  | lst g1 g2 =>
    rename_i vs
    refine ⟨p, vs, k, j, rfl, rfl, g1, by rw [g2.length]; exact h4, ?_⟩
    refine h5 _ Hb2 _ (s1.trans s2) (O2.wr h3 (.lst upd_same (RepL.set ((r.up s1).up s2) j g2))) (((S.up s1).up s2))
theorem ds_setF {c f : Str} (cl : Cls X.K (He.ga X.K c)) (na : NoAttr X.K (He.ga X.K c) f) (ho : DE X G o to) (hv : DE X G value tv) (hs : swapsWith value (some (.Attribute o f pos')) pos.line X.env = pure false := by rfl) :
    DS X G (.Assign [.Attribute o f pos'] value pos) (dSetF c f to tv) := by
  obtain ⟨ta, pa, la⟩ := ho
  obtain ⟨tb, pb, lb⟩ := hv
  refine ⟨_, ps_fld pa pb hs, ⟨fun hd h => lb.mono (fun y M1 h1 => la.mono (fun x M2 ⟨a, fs, h2, h3, h4, h5⟩ => ⟨a, fs, h2, h3, h4, hd.nx _ _ h5⟩) h1) h, fun {F σ ds Hb H M D} g O S h => ?_⟩⟩
  refine lb.run g O S (lb.mono (fun y M1 h1 w Hb1 H1 s1 O1 r1 => ?_) h)
  refine la.run (G.up g s1) O1 (S.up s1) (la.mono (fun x M2 h2 u Hb2 H2 s2 O2 r2 => ?_) h1)
  obtain ⟨a, fs, rfl, h3, h4, h5⟩ := h2
  cases r2
  obtain ⟨m1, m2, m3⟩ := O2.mt _ _ h3
  cases m1 with
  | obj g1 g2 =>
    rename_i dx gs
    refine ⟨a, _, dx, gs, rfl, g1, cl, na, by rw [RepF.length g2]; exact h4, ?_⟩
    exact h5 _ Hb2 _ (s1.trans s2) (O2.wr h3 (.obj upd_same (RepF.put (r1.up s2) g2))) ((S.up s1).up s2)
end

/-! ### raise -/
def Rsw (X : Cx) (G : Lk) (XX : DX) : Prop := ∃ E : XK, L2N.Takes X (fun cls d _ H => E cls d H) ∧ ∀ F Hb, G.g F Hb → ∀ c fs M, XX c fs M → ClX X.K F Hb E c fs M
theorem Rsw.exw {X : Cx} {G : Lk} {XX : DX} (r : Rsw X G XX) : Exw X G XX := by
  obtain ⟨E, tk, h⟩ := r
  exact ⟨E, L2N.passes_call tk (fun _ _ _ _ h => h), h⟩
def dRaise0 (c : Str) (XX : DX) : DTS := fun _ _ M => XX c [] M
def dRaiseF (c : Str) (names : List Str) (t : DTA) (XX : DX) : DTS := fun _ ds M => t ds M fun xs M1 => xs.length = names.length ∧ xs.length ≤ 1000 ∧ XX c (names.zip xs).reverse M1
/-- C(e, ..), C an exception class with its own __init__: its context is None -/
theorem pmkN_oex {X : Cx} {CX : CXT} {x : Str} {e : Expr} {es : List Expr} {ta : TA} {p pos : Pos} {C fI : Addr} {k : Nat} {fd : FuncData} {ps : List Str} {sp : Sp} (T : OexC X.K C) (iC : PySem.W.findIn X.K (.ref C) "__init__" = some (some (.ref fI)))
    (tI : PySem.W.typeIn X.K (.ref fI) = some (.type "function")) (F1 : FnOk X.prog X.w X.K X.mg X.base CX k fI fd ps sp) (hr : Room (k + 1) X.A) (hb : Binds X.K fd ps []) (hx : Passes CX X E0) (hg : Gl X x) (hm : X.mg x = some (.ref C)) (ha : PA X (e :: es) ta)
    (hdb : (x == ("__debug__" : Str)) = false := by decide) (he : starEach (e :: es) X.env = (false, eval e X.env) :: starEach es X.env := by rfl) (hpl : (backTo pos (starEach es X.env)).any (·.1) = false := by rfl) :
    L2N.PMk X (.Call (.Name x p) (e :: es) [] pos) (tMkO C sp [] ta) := by
  intro pins s σ H Q I h
  obtain ⟨nm, qn, N, bs, bm, sn, sub, ab, col, dd, a0, a1, a2, a3, a5, lookC, refs⟩ := T.cls
  refine wpAny_Call_Name_kw (ld_glob I hg hm ?_ hdb)
  refine PySem.W.callWith_K (h₀ := X.base) I.ok.mod.kin T.kC (thn (ha.run pos pins s σ H _ I h) fun us s1 hs => ?_) he hpl
  obtain ⟨vs, H1, I1, r1, hz, q1⟩ := hs
  refine ⟨I1.kIn, ?_⟩
  show wpAny _ _ (call (.ref C) us) _ _ _
  obtain ⟨hp, g, dr, tk, os⟩ := s1
  obtain ⟨n, hn⟩ : ∃ n, n = hp.objs.size + 1 := ⟨_, rfl⟩
  have le : hp.objs.size ≤ n := by omega
  have nn : H1 n = none := I1.hok.fresh le
  obtain ⟨hp2, hhp2⟩ : ∃ h2, h2 = (hp.push (PySem.W.kdv_tup us)).push (PySem.HandSPX.excO C hp.objs.size) := ⟨_, rfl⟩
  have keep : ∀ b o, hp.get? b = some o → hp2.get? b = some o := fun b o e => by rw [hhp2]; exact Heap.get?_push_of_some _ (Heap.get?_push_of_some _ e)
  have at_ : hp2.get? n = some (PySem.HandSPX.excO C hp.objs.size) := by rw [hhp2, hn]; heap_get
  have I2 : Inv X pins σ (upd H1 n (exo n C none)) ⟨hp2, g, dr, tk, os⟩ := I1.laid (t' := tk) (a := n) (o := exo n C none) (h' := hp2) keep le (exo_ok at_)
  have hq := q1 n nn
  rw [List.append_nil] at hq
  have rv : Vals (V.ref n :: vs) (Value.ref n :: us) := .cons rfl r1
  have hl : (Value.ref n :: us ++ []).length = ps.length := by rw [List.append_nil, ← rv.length]; exact F1.len _ _ _ _ hq
  have b2 := hb _ (Value.ref n :: us) I2.kIn hl
  rw [List.append_nil] at b2
  have room : us.length ≤ sizeLine := by rw [← Paired.length r1, sizeLine_eq]; omega
  rw [hn] at b2 hq rv I2
  rw [hhp2] at b2 I2
  refine wpAny_call (PySem.HandSPX.call_own F.excBase_ValueError (fun Y => PySem.HandSPX.refsVE_contains Y bm refs) (I1.kIn _ _ lookC) (PySem.W.looks_findIn I1.kIn iC) (fun self => PySem.W.bind_fn I1.kIn self tI) room
    (codeAny_mono (F1.run _ X.stack _ _ ⟨Value.ref (hp.objs.size + 1) :: us, []⟩ _ _ _ E0 (hr.make C us []) (I2.env0.make C us []) b2 rv hq) fun r s' back => ?_))
  cases r with
  | error er => exact hx pins σ _ _ er s' I2 back
  | ok fl =>
    cases fl with
    | ret u =>
      obtain ⟨v, H2, os2, bare2, un2, hok2, ru, ev, d, fs, ea, ed, hd1, q2⟩ := back
      subst ev
      obtain ⟨h2, g2, d2, t2, os'⟩ := s'
      obtain ⟨t0, G, J, kG, ge, hoe, na⟩ := mk_end0 (d2 := d2) (t2 := t2) I1 (Nat.le_succ _) (fun b o e => by rw [← hhp2]; exact keep b o e) un2 hok2 os2 bare2 ea ed hd1
      exact ⟨ru, ⟨hp.objs.size + 1, _, _, ⟨G, g2, d2, t2, os'⟩, _, .ref C, some d, rfl, J, kG, ge, hoe, ⟨rfl, rfl, fun vs hv => by cases hv; rfl⟩, rfl, rfl, na, rfl, bare2, raises_own T.exC T.tyC, q2⟩⟩
    | next => exact False.elim back
    | brk => exact False.elim back
    | cont => exact False.elim back
/-- what C's own __init__ does with the new exception: its fields, the last one first -/
def spInit (C : Addr) (names : List Str) : Sp := fun vs H Q _ => ∃ (a : Addr) (ys : List V), vs = .ref a :: ys ∧ ys.length = names.length ∧ H a = some (exo a C none) ∧
  ∀ dx H', H dx = none → dx ≠ a → H' a = some (exo a C (some dx)) → H' dx = some (exd dx (names.zip ys).reverse) → (∀ b, b ≠ a → b ≠ dx → H' b = H b) → Q .non H'
structure XMk (P : Program) (w : World) (K : PySem.W.Frag) (mg : Str → Option Value) (base : Heap) (k : Nat) (c : Str) (names : List Str) : Prop where
  T : OexC K (He.ga K c)
  ex : ∃ (fI : Addr) (fd : FuncData) (ps : List Str), PySem.W.findIn K (.ref (He.ga K c)) "__init__" = some (some (.ref fI)) ∧ PySem.W.typeIn K (.ref fI) = some (.type "function") ∧
    FnOk P w K mg base (L2N.CX P w) k fI fd ps (spInit (He.ga K c) names) ∧ Binds K fd ps []
theorem RepF.zip {K : PySem.W.Frag} {H : Hp} : ∀ {names : List Str} {vs : List V} {xs : List Dt}, RepL K H vs xs → RepF K H (names.zip vs) (names.zip xs)
  | [], _, _, _ => by rw [List.zip_nil_left, List.zip_nil_left]; exact .nil
  | _ :: _, _, _, .nil => .nil
  | _ :: _, _, _, .cons r t => .cons r (RepF.zip t)
theorem RepF.append {K : PySem.W.Frag} {H : Hp} : ∀ {gs gs' : List (Str × V)} {fs fs' : List (Str × Dt)}, RepF K H gs fs → RepF K H gs' fs' → RepF K H (gs ++ gs') (fs ++ fs')
  | _, _, _, _, .nil, s => s
  | _, _, _, _, .cons r t, s => .cons r (RepF.append t s)
theorem RepF.reverse {K : PySem.W.Frag} {H : Hp} {gs : List (Str × V)} {fs : List (Str × Dt)} (h : RepF K H gs fs) : RepF K H gs.reverse fs.reverse := by
  induction gs generalizing fs with
  | nil => cases h; exact .nil
  | cons v vs ih =>
    cases h with
    | cons r t =>
      rw [List.reverse_cons, List.reverse_cons]
      exact (ih t).append (.cons r .nil)
section
variable {X : Cx} {G : Lk} {XX : DX} {x : Str} {p p2 pos pos' : Pos} {e : Expr} {es : List Expr} {t : DTA} {k : Nat}
theorem ls_raise0 {K : PySem.W.Frag} {c : Str} {E : XK} (hl : ∀ F Hb, G.g F Hb → ∀ c fs M, XX c fs M → ClX K F Hb E c fs M) : LS K G (fun _ _ H => E (.ref (He.ga K c)) none H) (dRaise0 c XX) :=
  ⟨fun _ h => h, fun {F σ ds Hb H M D} g O S h => hl F Hb g _ _ _ h _ _ _ _ (Same.refl _) O ⟨rfl, .inl ⟨rfl, rfl⟩⟩⟩
theorem ds_raiseT {c m : Str} {j : Nat} (hc : X.calm = true) (rs : Rsw X G XX) (q : (He.Fa.exc c).ok X.K = true) (hg : Gl X x) (hm : X.mg x = some (.ref (He.ga X.K c))) (hdb : (x == ("__debug__" : Str)) = false := by decide) :
    DS X G (.Raise (some (.Call (.Name x p) [.Constant (.str m) j p2] [] pos)) none pos') (dRaise0 c XX) := by
  obtain ⟨E, tk, hl⟩ := rs
  obtain ⟨q1, q2, q3, q4⟩ := He.exc_ok q
  exact ⟨_, L2N.ps_raise hc tk (L2N.pmk_own PySem.F.excBase_ValueError q1 hm q2 (raises_own q3 q4) hg hdb), ls_raise0 hl⟩
theorem ds_raiseF {c : Str} {names : List Str} (hc : X.calm = true) (rs : Rsw X G XX) (Xm : XMk X.prog X.w X.K X.mg X.base k c names) (hr : Room (k + 1) X.A) (hg : Gl X x) (hm : X.mg x = some (.ref (He.ga X.K c))) (ha : DA X G (e :: es) t)
    (hdb : (x == ("__debug__" : Str)) = false := by decide) (he : starEach (e :: es) X.env = (false, eval e X.env) :: starEach es X.env := by rfl) (hpl : (backTo pos (starEach es X.env)).any (·.1) = false := by rfl) :
    DS X G (.Raise (some (.Call (.Name x p) (e :: es) [] pos)) none pos') (dRaiseF c names t XX) := by
  obtain ⟨E, tk, hl⟩ := rs
  obtain ⟨ta, pa, la⟩ := ha
  obtain ⟨fI, fd, ps, i1, i2, ok, bd⟩ := Xm.ex
  refine ⟨_, L2N.ps_raise hc tk (pmkN_oex (CX := L2N.CX X.prog X.w) Xm.T i1 i2 ok hr bd passLN hg hm pa hdb he hpl), ⟨fun hd h => h, fun {F σ ds Hb H M D} g O S h => ?_⟩⟩
  refine la.run g O S (la.mono (fun xs M1 h1 vs Hb1 H1 s1 O1 r1 => ?_) h)
  obtain ⟨l1, l2, h1⟩ := h1
  refine ⟨by rw [r1.length]; exact l2, fun a ha => ?_⟩
  refine ⟨a, vs, by rw [List.append_nil], by rw [r1.length]; exact l1, upd_same, fun dx H' hd hne e1 e2 e3 => ⟨rfl, dx, _, e1, e2, ?_, ?_⟩⟩
  · rw [upd_ne hne] at hd; exact hd
  · have hd1 : H1 dx = none := by rw [upd_ne hne] at hd; exact hd
    have e4 : upd (del H' a) dx (.xd (names.zip vs).reverse) = upd H1 dx (.xd (names.zip vs).reverse) := by
      funext b
      by_cases h1 : b = dx
      · subst h1; rw [upd_same, upd_same]
      · rw [upd_ne h1, upd_ne h1]
        by_cases h2 : b = a
        · subst h2; rw [del_same]; exact ha.symm
        · rw [del_ne h2, e3 b h2 h1, upd_ne h2]
    rw [e4]
    have s2 := same_new (o := .xd (names.zip vs).reverse) (O1.free hd1).1
    exact hl F Hb g _ _ _ h1 _ _ _ _ (s1.trans s2) (O1.new hd1) ⟨rfl, .inr ⟨dx, _, rfl, upd_same, (RepF.zip (r1.up s2)).reverse⟩⟩
end

/-! ### a def -/
def dstart (n : Nat) (xs : List Dt) : DSt := xs.map some ++ List.replicate (n - xs.length) none
/-- the promise of a def of n parameters, N slots, whose body reads bd -/
def spD (n N : Nat) (bd : DX → DTS) : DSp := fun xs M Q X => xs.length = n ∧ bd X { nx := fun _ M1 => Q .non M1, rt := Q } (dstart N xs) M
theorem srep_start {K : PySem.W.Frag} {Hb : Hp} {N : List Str} {vs : List V} {xs : List Dt} (r : RepL K Hb vs xs) : SRep K Hb (L2.start N vs) (dstart N.length xs) := by
  unfold L2.start dstart
  have hl := r.length
  refine ⟨by simp [hl], fun i d e => ?_⟩
  by_cases hi : i < xs.length
  · rw [List.getElem?_append_left (by simpa using hi), List.getElem?_map] at e
    obtain ⟨d', e1, e2⟩ := Option.map_eq_some_iff.mp e
    cases e2
    obtain ⟨v, h1, h2⟩ := r.get e1
    refine ⟨v, ?_, h2⟩
    rw [List.getElem?_append_left (by simpa [hl] using hi), List.getElem?_map, h1]
    rfl
  · rw [List.getElem?_append_right (by simpa using hi)] at e
    obtain ⟨_, e2⟩ := List.mem_replicate.mp (List.mem_of_getElem? e)
    cases e2
section
variable {P : Program} {w : World} {K : PySem.W.Frag} {mg : Str → Option Value} {base : Heap} {x qual : Str} {params : Arguments} {body : List Stmt} {scope : Scope} {dvs : List V} {kws : List (Str × V)} {f : Addr} {fd : FuncData}
/-- the body, walked in any context of a call of the def -/
def Walk (P : Program) (w : World) (K : PySem.W.Frag) (mg : Str → Option Value) (base : Heap) (N : List Str) (qual : Str) (scope : Scope) (f : Addr) (k : Nat) (body : List Stmt) (bd : DX → DTS) : Prop :=
  ∀ (cdv : Value) (A : Around) (outer : List Env) (s : Shared) (H : Hp) (E : XK) (G : Lk) (XX : DX), Room k (A.deeper (envOfC qual scope s.heap.objs.size f cdv)) →
    Rsw (cxOf (L2N.CX P w) P w K mg base N qual scope f cdv A outer s H E) G XX → DSs (cxOf (L2N.CX P w) P w K mg base N qual scope f cdv A outer s H E) G body (bd XX)
theorem def_ok {N ps : List Str} {k n m : Nat} {bd : DX → DTS} (F : FunD K x qual params body scope dvs kws f fd) (S : FnScope N ps scope) (W : Walk P w K mg base N qual scope f k body bd) (hn : ps.length = n := by rfl) (hm : N.length = m := by rfl) :
    FnOk P w K mg base (L2N.CX P w) (k + 1) f fd ps (spOf K (spD n m bd)) := by
  subst hn hm
  refine F.ok S (fun vs H Q E h => ?_) (fun cdv A outer s H vs Q E hr h => ?_)
  · obtain ⟨F0, Hb, M, xs, QD, XD, O, r, h1, _⟩ := h
    rw [r.length]; exact h1.1
  · obtain ⟨F0, Hb, M, xs, QD, XD, O, r, ⟨h1, h2⟩, hq, hx⟩ := h
    obtain ⟨t, pt, lt⟩ := W cdv A outer s H E (Lk.at F0 Hb) XD hr ⟨E, L2N.takes_of rfl rfl rfl rfl, fun F' Hb' g c fs M' z => by
      obtain ⟨rfl, g2⟩ := g
      exact ClX.up g2 (hx c fs M' z)⟩
    refine ⟨t, pt, ?_⟩
    refine lt.run (D := { nx := fun _ H' => Q .non H', rt := Q }) ⟨rfl, Same.refl _⟩ O (srep_start r) (lt.mono (D := { nx := fun _ M1 => QD .non M1, rt := QD }) ⟨fun ds M1 z => ?_, fun x M1 z => hq x M1 z, fun _ _ z => z.elim, fun _ _ z => z.elim⟩ h2)
    intro σ Hb' H' s' O' S'
    exact hq _ _ z .non Hb' H' s' O' .non
end
end DL
set_option Elab.async false
set_option linter.all false
set_option maxRecDepth 100000
set_option maxHeartbeats 4000000
/-! D layer, part N: names of the module, minus, freezing, dicts, calls of instances, keywords. -/
namespace DL
open PySem PySem.Spec PyProof.Rows L2
section
variable {X : Cx} {G : Lk} {e : Expr} {t : DTE} {pos : Pos}
theorem de_gInt {x : Str} {i : Int} (hg : Gl X x) (hm : ∃ t, X.mg x = some (.int i t)) (hd : (x == ("__debug__" : Str)) = false := by decide) : DE X G (.Name x pos) (dC (.int i)) := by
  obtain ⟨t, h⟩ := hm
  exact de_c (pe_glob hg h (v := .int i) ⟨t, rfl⟩ hd) fun _ => .int
theorem de_gStr {x y : Str} (hg : Gl X x) (hm : ∃ t, X.mg x = some (.str y t)) (hd : (x == ("__debug__" : Str)) = false := by decide) : DE X G (.Name x pos) (dC (.str y)) := by
  obtain ⟨t, h⟩ := hm
  exact de_c (pe_glob hg h (v := .str y) ⟨t, rfl⟩ hd) fun _ => .str
theorem de_gRef {x : Str} {a : Addr} {d : Dt} (hg : Gl X x) (hm : X.mg x = some (.ref a)) (r : ∀ H, Rep X.K H (.ref a) d) (hd : (x == ("__debug__" : Str)) = false := by decide) : DE X G (.Name x pos) (dC d) :=
  de_c (pe_glob hg hm (v := .ref a) rfl hd) r
def dNeg (t : DTE) : DTE := fun ds M Q => t ds M fun x M1 => match x with
  | .int i => Q (.int (-i)) M1
  | _ => False
theorem de_neg (h : DE X G e t) : DE X G (.UnaryOp .USub e pos) (dNeg t) := by
  obtain ⟨ta, pa, la⟩ := h
  refine ⟨_, pe_un un_neg pa, ⟨fun hq h => la.mono (fun x M1 h1 => ?_) h, fun {F σ ds Hb H M Q} g O S h => la.run g O S (la.mono (fun x M1 h1 v Hb1 H1 s1 O1 r1 => ?_) h)⟩⟩
  · cases x <;> first | exact h1.elim | exact hq _ _ h1
  · cases r1 <;> first | exact h1.elim | exact ⟨_, rfl, h1 _ _ _ s1 O1 .int⟩
/-- what may change no longer does -/
def dFrz (t : DTE) : DTE := fun ds M Q => t ds M fun x M1 => ∃ a xs, x = .cel a ∧ M1 a = some (.lst xs) ∧ Q (.lst xs) (mdel M1 a)
theorem de_frz (h : DE X G e t) : DE X G e (dFrz t) := by
  obtain ⟨ta, pa, la⟩ := h
  refine ⟨ta, pa, ⟨fun hq h => la.mono (fun x M1 ⟨a, xs, h1, h2, h3⟩ => ⟨a, xs, h1, h2, hq _ _ h3⟩) h, fun {F σ ds Hb H M Q} g O S h => la.run g O S (la.mono (fun x M1 h1 v Hb1 H1 s1 O1 r1 => ?_) h)⟩⟩
  obtain ⟨a, xs, rfl, h2, h3⟩ := h1
  cases r1
  obtain ⟨vs, e1, e2, e3, e4⟩ := O1.freeze h2
  exact h3 _ _ _ (s1.trans e2) e3 e4
/-- xs[::-1] -/
def dRevX (m : Bool) (t : DTE) : DTE := fun ds M Q => t ds M fun x M1 => match rview M1 x with
  | some xs => newL m xs.reverse M1 Q
  | none => False
theorem de_revX (m : Bool) {k : Nat} {p1 p2 p3 : Pos} (h : DE X G e t) : DE X G (.Subscript e (.Slice none none (some (.UnaryOp .USub (.Constant (.int 1) k p1) p2)) p3) pos) (dRevX m t) := by
  obtain ⟨ta, pa, la⟩ := h
  refine ⟨_, pe_revL pa, ⟨fun hq h => la.mono (fun x M1 h1 => ?_) h, fun {F σ ds Hb H M Q} g O S h => la.run g O S (la.mono (fun x M1 h1 v Hb1 H1 s1 O1 r1 => ?_) h)⟩⟩
  · split at h1
    · exact newL_mono hq h1
    · exact h1.elim
  · split at h1
    · rename_i xs e1
      obtain ⟨a, vs, rfl, e2, e3⟩ := rview_run O1 r1 e1
      exact ⟨a, vs, rfl, e2, newL_run O1 e3.reverse (newL_mono (fun _ _ z => Cl.up s1 z) h1)⟩
    · exact h1.elim
end
/-! ### keywords -/
def DKs (X : Cx) (G : Lk) (kws : List Keyword) (d : DTA) : Prop := ∃ t, PK X kws t ∧ LA X.K G t d
section
variable {X : Cx} {G : Lk} {e : Expr} {t : DTE} {u : DTA} {pos kpos : Pos} {nm : Option Str} {kws : List Keyword}
theorem dk_nil : DKs X G [] dNil := ⟨tNil, pk_nil, ⟨fun hq h => hq _ _ h, fun g O S h => h [] _ _ (Same.refl _) O .nil⟩⟩
theorem dk_cons (ha : DE X G e t) (hr : DKs X G kws u) : DKs X G (⟨nm, e, kpos⟩ :: kws) (dCons t u) := by
  obtain ⟨ta, pa, la⟩ := ha
  obtain ⟨tr, pr, lr⟩ := hr
  refine ⟨tCons ta tr, pk_cons pa pr, ⟨fun hq h => la.mono (fun x M1 h1 => lr.mono (fun xs M2 h2 => hq _ _ h2) h1) h, fun {F σ ds Hb H M Q} g O S h => ?_⟩⟩
  refine la.run g O S (la.mono (fun x M1 h1 v Hb1 H1 s1 O1 r1 => ?_) h)
  refine lr.run (G.up g s1) O1 (S.up s1) (lr.mono (fun xs M2 h2 vs Hb2 H2 s2 O2 r2 => ?_) h1)
  exact h2 (v :: vs) Hb2 H2 (s1.trans s2) O2 (.cons (r1.up s2) r2)
theorem de_callKw {x : Str} {p : Pos} {es : List Expr} {ts : DTA} {f : DSp} {XX : DX} {k : Nat} {fa : Addr} {n : Nat} {ks : List Str} {m : Nat} (F : DFk X.prog X.w X.K X.mg X.base k fa n ks f) (hr : Room k X.A) (hg : Gl X x) (hm : X.mg x = some (.ref fa)) (ex : Exw X G XX) (ha : DA X G (e :: es) ts)
    (hk : DKs X G kws u) (hl : ks.length = m := by rfl) (hall : (backToKw pos (keywordEach kws X.env)).all (·.1.isSome) = true := by rfl) (hks : (backToKw pos (keywordEach kws X.env)).filterMap (·.1) = ks := by rfl)
    (hdb : (x == ("__debug__" : Str)) = false := by decide) (he : starEach (e :: es) X.env = (false, eval e X.env) :: starEach es X.env := by rfl)
    (hpl : ((backTo pos (starEach (e :: es) X.env)).any (·.1) || (backToKw pos (keywordEach kws X.env)).any (·.1.isNone)) = false := by rfl) :
    DE X G (.Call (.Name x p) (e :: es) kws pos) (dCallK f n m XX ts u) := by
  subst hl
  obtain ⟨tk, pk, lk⟩ := hk
  exact de_callK F hr hg hm ex ha pk lk hall hks hdb he hpl
theorem kbn_of {K : PySem.W.Frag} {x qual : Str} {params : Arguments} {body : List Stmt} {scope : Scope} {kws : List (Str × V)} {f : Addr} {fd : FuncData} {ps : List Str} {n : Nat} {ks : List Str} (F : FunD K x qual params body scope [] kws f fd)
    (h : ∀ (kV doc pm : Value) (an : Option Addr) (cdv ct : Value) (us ws : List Value), us.length = n → ws.length = ks.length → bindArgs (PySem.W.fnOf x qual params body scope .none kV doc pm an cdv ct) ⟨us, ks.zip ws⟩ = pure (ps.zip (us ++ ws))) :
    KBn K fd ps n ks (fun us ws => us ++ ws) (fun us ws => us ++ ws) := by
  obtain ⟨oc, od, dV, kV, doc, pm, an, cdv, ct, osl, rfl, lk, hcd, hD, hK⟩ := F.ex
  rcases hD with ⟨_, rfl⟩ | ⟨e, _⟩
  · exact ⟨fun s us ws _ h1 h2 => .of_eq (h kV doc pm an cdv ct us ws h1 h2), fun r1 r2 => r1.append r2⟩
  · exact absurd rfl e
theorem DFk.mono {P : Program} {w : World} {K : PySem.W.Frag} {mg : Str → Option Value} {base : Heap} {j k : Nat} {fa : Addr} {n : Nat} {ks : List Str} {f : DSp} (F : DFk P w K mg base j fa n ks f) (h : j ≤ k) : DFk P w K mg base k fa n ks f := by
  obtain ⟨fd, ps, h1, h2⟩ := F.ex
  exact ⟨F.kp, fd, ps, h1.mono h, h2⟩
end
/-! ### dicts -/
def keyD : Dt → Option Key
  | .int i => some (.inl i)
  | .str s => some (.inr s)
  | _ => none
theorem keyD_of {K : PySem.W.Frag} {H : Hp} {v : V} {x : Dt} {k : Key} (r : Rep K H v x) (h : keyD x = some k) : v = kV k := by
  cases r <;> cases h <;> rfl
def valD (kvs : List (Key × Dt)) (k : Key) : Option Dt := (kvs.find? fun kv => decide (kv.1 = k)).map (·.2)
theorem valD_neg {k k' : Key} {d : Dt} {r : List (Key × Dt)} (h : ¬ k' = k) : valD ((k', d) :: r) k = valD r k := by simp [valD, List.find?_cons, h]
theorem RepK.val {K : PySem.W.Frag} {H : Hp} {k : Key} : ∀ {ks : List (Key × V)} {kvs : List (Key × Dt)}, RepK K H ks kvs → (∀ d, valD kvs k = some d → ∃ v, valV ks k = some v ∧ Rep K H v d) ∧ (valD kvs k = none → valV ks k = none)
  | _, _, .nil => ⟨(fun d h => by cases h), fun _ => rfl⟩
  | _, _, .cons (k := k') r t => by
    have ih := RepK.val (k := k) t
    by_cases h : k' = k
    · subst h
      refine ⟨fun d e => ?_, fun e => ?_⟩
      · simp [valD] at e; subst e; exact ⟨_, by simp [valV], r⟩
      · simp [valD] at e
    · rw [valD_neg h, valV_neg h]
      exact ih
def putKD (kvs : List (Key × Dt)) (k : Key) (v : Dt) : List (Key × Dt) :=
  if (kvs.any fun kv => decide (kv.1 = k)) = true then kvs.map (fun kv => if kv.1 = k then (kv.1, v) else kv) else kvs ++ [(k, v)]
theorem RepK.any {K : PySem.W.Frag} {H : Hp} {k : Key} : ∀ {ks : List (Key × V)} {kvs : List (Key × Dt)}, RepK K H ks kvs → (ks.any fun kv => decide (kv.1 = k)) = (kvs.any fun kv => decide (kv.1 = k))
  | _, _, .nil => rfl
  | _, _, .cons r t => by simp only [List.any_cons, RepK.any (k := k) t]
theorem RepK.app {K : PySem.W.Frag} {H : Hp} : ∀ {ks ks' : List (Key × V)} {kvs kvs' : List (Key × Dt)}, RepK K H ks kvs → RepK K H ks' kvs' → RepK K H (ks ++ ks') (kvs ++ kvs')
  | _, _, _, _, .nil, s => s
  | _, _, _, _, .cons r t, s => .cons r (RepK.app t s)
theorem RepK.rpl {K : PySem.W.Frag} {H : Hp} {k : Key} {y : V} {d : Dt} (ry : Rep K H y d) : ∀ {ks : List (Key × V)} {kvs : List (Key × Dt)}, RepK K H ks kvs → RepK K H (ks.map fun kv => if kv.1 = k then (kv.1, y) else kv) (kvs.map fun kv => if kv.1 = k then (kv.1, d) else kv)
  | _, _, .nil => .nil
  | _, _, .cons (k := k') r t => by
    show RepK K H ((if k' = k then (k', y) else (k', _)) :: _) ((if k' = k then (k', d) else (k', _)) :: _)
    by_cases h : k' = k
    · rw [if_pos h, if_pos h]; exact .cons ry (RepK.rpl ry t)
    · rw [if_neg h, if_neg h]; exact .cons r (RepK.rpl ry t)
theorem RepK.put {K : PySem.W.Frag} {H : Hp} {k : Key} {y : V} {d : Dt} (ry : Rep K H y d) {ks : List (Key × V)} {kvs : List (Key × Dt)} (h : RepK K H ks kvs) : RepK K H (putK ks k y) (putKD kvs k d) := by
  unfold putK putKD
  rw [h.any]
  split
  · exact RepK.rpl ry h
  · exact h.app (.cons ry .nil)
theorem RepK.length {K : PySem.W.Frag} {H : Hp} : ∀ {ks : List (Key × V)} {kvs : List (Key × Dt)}, RepK K H ks kvs → ks.length = kvs.length
  | _, _, .nil => rfl
  | _, _, .cons _ t => congrArg Nat.succ (RepK.length t)
def dicV (M : Mm) : Dt → Option (List (Key × Dt))
  | .dic kvs => some kvs
  | .cel a => (match M a with
    | some (.dic kvs) => some kvs
    | _ => none)
  | _ => none
theorem dicV_run {K : PySem.W.Frag} {F : Fo} {M : Mm} {Hb H : Hp} {v : V} {x : Dt} {kvs : List (Key × Dt)} (O : Own K F M Hb H) (r : Rep K Hb v x) (h : dicV M x = some kvs) : ∃ a ks, v = .ref a ∧ H a = some (.dK ks) ∧ RepK K Hb ks kvs := by
  cases x with
  | dic l => cases h; cases r with | dic h1 h2 => exact ⟨_, _, rfl, O.same _ _ h1, h2⟩
  | cel a =>
    cases r
    have h' : (match M a with | some (.dic kvs) => some kvs | _ => none) = some kvs := h
    split at h'
    · rename_i l e2
      cases h'
      obtain ⟨m1, _, _⟩ := O.mt _ _ e2
      cases m1 with
      | dic g1 g2 => exact ⟨_, _, rfl, g1, g2⟩
    · cases h'
  | _ => cases h
section
variable {X : Cx} {G : Lk} {o i : Expr} {td ty : DTE} {pos : Pos}
def dDGet (td ty : DTE) : DTE := fun ds M Q => td ds M fun x M1 => ty ds M1 fun y M2 => ∃ kvs k d, dicV M2 x = some kvs ∧ keyD y = some k ∧ valD kvs k = some d ∧ Q d M2
def dInD (f : Bool → Bool) (ty td : DTE) : DTE := fun ds M Q => ty ds M fun y M1 => td ds M1 fun x M2 => ∃ kvs k, dicV M2 x = some kvs ∧ keyD y = some k ∧ Q (.bl (f (valD kvs k).isSome)) M2
theorem de_dget (hu : X.A.units + 1 < cLine) (ho : DE X G o td) (hi : DE X G i ty) (hs : NoSl i := by exact fun _ _ => rfl) : DE X G (.Subscript o i pos) (dDGet td ty) := by
  obtain ⟨ta, pa, la⟩ := ho
  obtain ⟨tb, pb, lb⟩ := hi
  refine ⟨_, pe_dget hu pa pb hs, ⟨fun hq h => la.mono (fun x M1 h1 => lb.mono (fun y M2 ⟨kvs, k, d, h2, h3, h4, h5⟩ => ⟨kvs, k, d, h2, h3, h4, hq _ _ h5⟩) h1) h, fun {F σ ds Hb H M Q} g O S h => ?_⟩⟩
  refine la.run g O S (la.mono (fun x M1 h1 v Hb1 H1 s1 O1 r1 => ?_) h)
  refine lb.run (G.up g s1) O1 (S.up s1) (lb.mono (fun y M2 h2 u Hb2 H2 s2 O2 r2 => ?_) h1)
  obtain ⟨kvs, k, d, h2, h3, h4, h5⟩ := h2
  obtain ⟨a, ks, rfl, e1, e2⟩ := dicV_run O2 (r1.up s2) h2
  obtain ⟨w, e3, e4⟩ := (e2.val (k := k)).1 d h4
  have e5 := keyD_of r2 h3
  exact ⟨a, w, rfl, .inl ⟨ks, k, .inl e1, e5, e3.symm⟩, h5 _ _ _ (s1.trans s2) O2 e4⟩
theorem isSome_eq {K : PySem.W.Frag} {H : Hp} {k : Key} {ks : List (Key × V)} {kvs : List (Key × Dt)} (h : RepK K H ks kvs) : (valV ks k).isSome = (valD kvs k).isSome := by
  cases e : valD kvs k with
  | none => rw [(h.val (k := k)).2 e]; rfl
  | some d => obtain ⟨v, e1, _⟩ := (h.val (k := k)).1 d e; rw [e1]; rfl
theorem le_in {K : PySem.W.Frag} {ta tb : TE} (lb : LE K G tb ty) (la : LE K G ta td) : LE K G (tDIn tb ta) (dInD id ty td) := by
  refine ⟨fun hq h => lb.mono (fun y M1 h1 => la.mono (fun x M2 ⟨kvs, k, h2, h3, h5⟩ => ⟨kvs, k, h2, h3, hq _ _ h5⟩) h1) h, fun {F σ ds Hb H M Q} g O S h => ?_⟩
  refine lb.run g O S (lb.mono (fun y M1 h1 v Hb1 H1 s1 O1 r1 => ?_) h)
  refine la.run (G.up g s1) O1 (S.up s1) (la.mono (fun x M2 h2 u Hb2 H2 s2 O2 r2 => ?_) h1)
  obtain ⟨kvs, k, h2, h3, h5⟩ := h2
  obtain ⟨a, ks, rfl, e1, e2⟩ := dicV_run O2 r2 h2
  refine ⟨a, valV ks k, rfl, .inl ⟨ks, k, .inl e1, keyD_of r1 h3, rfl⟩, ?_⟩
  rw [isSome_eq e2]
  exact h5 _ _ _ (s1.trans s2) O2 .bl
theorem le_notIn {K : PySem.W.Frag} {ta tb : TE} (lb : LE K G tb ty) (la : LE K G ta td) : LE K G (tDNotIn tb ta) (dInD not ty td) := by
  refine ⟨fun hq h => lb.mono (fun y M1 h1 => la.mono (fun x M2 ⟨kvs, k, h2, h3, h5⟩ => ⟨kvs, k, h2, h3, hq _ _ h5⟩) h1) h, fun {F σ ds Hb H M Q} g O S h => ?_⟩
  refine lb.run g O S (lb.mono (fun y M1 h1 v Hb1 H1 s1 O1 r1 => ?_) h)
  refine la.run (G.up g s1) O1 (S.up s1) (la.mono (fun x M2 h2 u Hb2 H2 s2 O2 r2 => ?_) h1)
  obtain ⟨kvs, k, h2, h3, h5⟩ := h2
  obtain ⟨a, ks, rfl, e1, e2⟩ := dicV_run O2 r2 h2
  refine ⟨a, valV ks k, rfl, .inl ⟨ks, k, .inl e1, keyD_of r1 h3, rfl⟩, ?_⟩
  rw [isSome_eq e2]
  exact h5 _ _ _ (s1.trans s2) O2 .bl
theorem lt_b {K : PySem.W.Frag} {t : TE} {d : DTE} (h : LE K G t d) : LT K G (tB t) (dTest d) := by
  refine ⟨fun hq h1 => h.mono (fun x M1 h2 => ?_) h1, fun {F σ ds Hb H M Q} g O S h1 => h.run g O S (h.mono (fun x M1 h2 v Hb1 H1 s1 O1 r1 => ?_) h1)⟩
  · cases x <;> first | exact h2.elim | exact hq _ _ h2
  · cases r1 <;> first | exact h2.elim | exact ⟨_, rfl, h2 _ _ s1 O1⟩
theorem de_inD (hu : X.A.units + 1 < cLine) (hi : DE X G i ty) (ho : DE X G o td) (hm : behindInMarks .In o = false := by first | exact nomark _ | rfl) : DE X G (.Compare i [.In] [o] pos) (dInD id ty td) := by
  obtain ⟨ta, pa, la⟩ := ho
  obtain ⟨tb, pb, lb⟩ := hi
  exact ⟨_, pe_cmp (pc_din hu pb pa) hm, le_in lb la⟩
theorem de_notInD (hu : X.A.units + 1 < cLine) (hi : DE X G i ty) (ho : DE X G o td) (hm : behindInMarks .NotIn o = false := by first | exact nomark _ | rfl) : DE X G (.Compare i [.NotIn] [o] pos) (dInD not ty td) := by
  obtain ⟨ta, pa, la⟩ := ho
  obtain ⟨tb, pb, lb⟩ := hi
  exact ⟨_, pe_cmp (pc_dnotin hu pb pa) hm, le_notIn lb la⟩
theorem dt_inD (hu : X.A.units + 1 < cLine) (hi : DE X G i ty) (ho : DE X G o td) (hm : behindInMarks .In o = false := by first | exact nomark _ | rfl) : DT X G (.Compare i [.In] [o] pos) (dTest (dInD id ty td)) := by
  obtain ⟨ta, pa, la⟩ := ho
  obtain ⟨tb, pb, lb⟩ := hi
  exact ⟨_, pt_cmp (pc_din hu pb pa) hm, lt_b (le_in lb la)⟩
theorem dt_notInD (hu : X.A.units + 1 < cLine) (hi : DE X G i ty) (ho : DE X G o td) (hm : behindInMarks .NotIn o = false := by first | exact nomark _ | rfl) : DT X G (.Compare i [.NotIn] [o] pos) (dTest (dInD not ty td)) := by
  obtain ⟨ta, pa, la⟩ := ho
  obtain ⟨tb, pb, lb⟩ := hi
  exact ⟨_, pt_cmp (pc_dnotin hu pb pa) hm, lt_b (le_notIn lb la)⟩
end
/-! ### dict displays by for -/
def dDcL (g : DTG) (tk tv : DTE) (still : Mm → Prop) (ds : DSt) (Q : List (Key × Dt) → Mm → Prop) : List Dt → List (Key × Dt) → Mm → Prop
  | [], acc, M => still M ∧ Q acc M
  | x :: r, acc, M => still M ∧ g x ds M fun ds' M' => tk ds' M' fun y M2 => tv ds' M2 fun z M3 => ∃ k, keyD y = some k ∧ acc.length < sizeLine ∧ dDcL g tk tv still ds Q r (putKD acc k z) M3
def dDc (w : DTI) (g : DTG) (tk tv : DTE) (vs : List Nat) : DTE := fun ds M Q => w ds M fun I M1 => dDcL g tk tv I.still (wipeD ds vs) (fun acc M2 => Q (.dic acc) M2) I.items [] M1
section
variable {X : Cx} {G : Lk} {kx vx tg iter : Expr} {scope : Scope} {pos : Pos} {w : DTI} {g : DTG} {tk tv : DTE}
theorem le_dc {K : PySem.W.Frag} {wi : TI} {tgg : TG} {ttk ttv : TE} {vs : List Nat} (li : LI K G wi w) (lg : LW K vs tgg g) (lk : LE K Lk.any ttk tk) (le : LE K Lk.any ttv tv) : LE K G (tDc wi tgg tYes ttk ttv vs) (dDc w g tk tv vs) := by
  refine ⟨fun {ds M Q Q'} hq h => li.mono (fun I M1 h1 => ?_) h, fun {F σ ds Hb H M Q} gg O S h => ?_⟩
  · have key : ∀ (l : List Dt) (acc : List (Key × Dt)) (M : Mm), dDcL g tk tv I.still (wipeD ds vs) (fun acc M2 => Q (.dic acc) M2) l acc M → dDcL g tk tv I.still (wipeD ds vs) (fun acc M2 => Q' (.dic acc) M2) l acc M := by
      intro l
      induction l with
      | nil => intro acc M h; exact ⟨h.1, hq _ _ h.2⟩
      | cons x r ih =>
        intro acc M h
        exact ⟨h.1, lg.mono (fun ds' M' h1 => lk.mono (fun y M2 h2 => le.mono (fun z M3 ⟨k, h3, h4, h5⟩ => ⟨k, h3, h4, ih _ _ h5⟩) h2) h1) h.2⟩
    exact key _ _ _ h1
  refine li.run gg O S (li.mono (fun I M1 h1 J Hb1 H1 s1 O1 R1 => ?_) h)
  intro D hD
  have hF : F.hp D = none := (O1.free hD).2.1
  refine ⟨fun i mm H' => mm = I.items.length - i ∧ i ≤ I.items.length ∧ ∃ acc vacc M' Hb', Same Hb1 Hb' ∧ Own K (F.put D (.dK vacc)) M' Hb' H' ∧ RepK K Hb' vacc acc ∧
      dDcL g tk tv I.still (wipeD ds vs) (fun acc M2 => Cl K F Hb Q (.dic acc) M2) (I.items.drop i) acc M', ⟨_, rfl, Nat.zero_le _, [], [], M1, Hb1, Same.refl _, O1.addF hD, .nil, h1⟩, ?_⟩
  rintro i mm H2 ⟨rfl, hi, acc, vacc, M2, Hb2, s2, O2, r2, h2⟩
  have hDH : H2 D = some (.dK vacc) := O2.fr _ _ upd_same
  cases e : I.items.drop i with
  | nil =>
    rw [e] at h2
    have hl : I.items.length ≤ i := List.drop_eq_nil_iff.mp e
    refine .inl ⟨(R1 _ Hb2 H2 M2 s2 O2 h2.1).2 i hl, ?_⟩
    have sn := same_new (o := HO.dK vacc) (O2.dj D _ upd_same)
    exact h2.2 _ _ _ ((s1.trans s2).trans sn) (O2.fromF hF) (.dic upd_same (r2.up sn))
  | cons x r =>
    rw [e] at h2
    obtain ⟨e1, e2⟩ := drop_cons e
    have hlt : i < I.items.length := (List.getElem?_eq_some_iff.mp e1).1
    obtain ⟨go, step⟩ := (R1 _ Hb2 H2 M2 s2 O2 h2.1).1 i x e1
    refine .inr ⟨go, fun H' => ∃ acc vacc M' Hb', Same Hb1 Hb' ∧ Own K (F.put D (.dK vacc)) M' Hb' H' ∧ RepK K Hb' vacc acc ∧ dDcL g tk tv I.still (wipeD ds vs) (fun acc M2 => Cl K F Hb Q (.dic acc) M2) r acc M',
      fun H' z => ⟨I.items.length - (i + 1), by omega, rfl, hlt, by rw [e2]; exact z⟩, fun v H3 y => ?_⟩
    obtain ⟨Hb3, s3, O3, r3⟩ := step v H3 y
    have s13 := s2.trans s3
    refine lg.run O3 ((S.up (s1.trans s13)).wipe vs) r3 (lg.mono (fun ds4 M4 h4 σ4 Hb4 H4 s4 O4 S4 w4 => ?_) h2.2)
    refine ⟨w4.trans ?_, ?_⟩
    · have key : ∀ (vs ws : List Nat) (σ : St), (∀ v ∈ vs, v ∈ ws) → wipe (wipe σ vs) ws = wipe σ ws := by
        intro vs
        induction vs with
        | nil => intro ws σ _; rfl
        | cons v vs ih =>
          intro ws σ hv
          show wipe ((wipe σ vs).set v none) ws = wipe σ ws
          rw [wipe_set_mem _ (hv v List.mem_cons_self), ih ws σ fun u hu => hv u (List.mem_cons_of_mem _ hu)]
      exact key vs vs σ fun _ h => h
    · unfold tYes
      refine iteT (lk.run trivial O4 S4 (lk.mono (fun y M5 h5 u5 Hb5 H5 s5 O5 r5 => ?_) h4))
      refine le.run trivial O5 (S4.up s5) (le.mono (fun z M6 h6 u Hb6 H6 s6 O6 r6 => ?_) h5)
      obtain ⟨k, h7, h8, h9⟩ := h6
      have hDH6 : H6 D = some (.dK vacc) := O6.fr _ _ upd_same
      refine ⟨vacc, k, keyD_of r5 h7, hDH6, by rw [r2.length]; exact h8, _, putK vacc k u, M6, Hb6, ((s13.trans s4).trans s5).trans s6, O6.updF (hF := hF), ?_, h9⟩
      exact (r2.up (((s3.trans s4).trans s5).trans s6)).put r6
theorem de_dc (own : List (Str × Nat)) (hc : X.calm = true) (hN : X.N.Nodup) (hi : DI X G tg iter w) (hg : DGw X scope (own.map (·.2)) tg g) (hk : DEb X scope kx tk) (he : DEb X scope vx tv)
    (ok : blkC X.N X.env.scope scope own = true := by decide +kernel) (hs : ∀ x, foldedSetIterable iter X.env x = pure x := by intro _; rfl) : DE X G (.DictComp kx vx [⟨tg, iter, [], 0⟩] scope pos) (dDc w g tk tv (own.map (·.2))) := by
  obtain ⟨t1, p1, l1⟩ := hi
  obtain ⟨t2, p2, l2⟩ := hg
  exact ⟨_, pe_dc hc hN p1 (blkOk_by ok) p2 (fun s H C cl fp => pts_nil) (fun s H C cl fp => pe_can (hk s H C cl fp)) (fun s H C cl fp => pe_can (he s H C cl fp)) hs, le_dc l1 l2 (le_canb hk) (le_canb he)⟩
end
/-! ### a call of an instance -/
def dCallO (f : DSp) (c : Str) (XX : DX) (o : DTE) (t : DTA) : DTE := fun ds M Q => o ds M fun x M1 => (∃ fs, x = .obj c fs) ∧ t ds M1 fun xs M2 => upQ f (x :: xs) M2 Q XX
section
variable {X : Cx} {G : Lk} {fe e : Expr} {es : List Expr} {to : DTE} {t : DTA} {f : DSp} {XX : DX} {k : Nat} {fa : Addr} {pos : Pos} {c : Str}
theorem de_callO (F : DFn X.prog X.w X.K X.mg X.base k fa [] f) (co : StX.CallO X.K (He.ga X.K c) fa) (hr : Room k X.A) (ex : Exw X G XX) (ho : DE X G fe to) (ha : DA X G (e :: es) t)
    (ht : eval (.Call fe (e :: es) [] pos) X.env = (do callWith pos (← eval fe X.env) [] (backTo pos (starEach (e :: es) X.env)) (backToKw pos (keywordEach [] X.env))) := by rfl)
    (he : starEach (e :: es) X.env = (false, eval e X.env) :: starEach es X.env := by rfl) (hpl : (backTo pos (starEach es X.env)).any (·.1) = false := by rfl) : DE X G (.Call fe (e :: es) [] pos) (dCallO f c XX to t) := by
  obtain ⟨ta, pa, la⟩ := ha
  obtain ⟨tb, pb, lb⟩ := ho
  obtain ⟨E, hx, hl⟩ := ex
  obtain ⟨fd, ps, dvs, ds, ok, bd, vd, rd⟩ := F.ex
  refine ⟨_, StX.pe_callO pb co (ok.raw bd vd) hr hx pa ht he hpl, ⟨fun hq h => lb.mono (fun x M1 h1 => ⟨h1.1, la.mono (fun xs M2 h2 => upQ_mono hq h2) h1.2⟩) h, fun {F σ ds Hb H M Q} g O S h => ?_⟩⟩
  refine lb.run g O S (lb.mono (fun x M1 h1 v Hb1 H1 s1 O1 r1 => ?_) h)
  have e1 : dvs = [] := by cases rd (fun _ => none); rfl
  subst e1
  obtain ⟨⟨fs, rfl⟩, h1⟩ := h1
  have r0 := r1
  cases r1 with
  | obj q1 q2 =>
    rename_i a dx gs
    refine ⟨a, rfl, la.run (G.up g s1) O1 (S.up s1) (la.mono (fun xs M2 h2 vs Hb2 H2 s2 O2 r2 => ?_) h1)⟩
    refine ⟨.inr ⟨dx, gs, O2.same _ _ (s2 _ _ q1)⟩, ?_⟩
    show spOf X.K f (V.ref a :: (vs ++ [])) H2 Q E
    rw [List.append_nil]
    exact upQ_run (s1.trans s2) O2 (.cons (r0.up s2) r2) (hl _ _ (G.up (G.up g s1) s2)) h2
end
end DL
namespace DL
open PySem PySem.Spec PyProof.Rows L2
theorem room1 {k : Nat} {A : Around} (r : Room k A) : A.units + 1 < cLine := by have := r.units; omega
/-! ### an exception class's own __init__: self.f = f, .. -/
section
variable {P : Program} {w : World} {K : PySem.W.Frag} {mg : Str → Option Value} {base : Heap} {x qual : Str} {params : Arguments} {body : List Stmt} {scope : Scope} {dvs : List V} {kws : List (Str × V)} {f C : Addr} {fd : FuncData}
theorem init_ok1 {a : Str} {p00 p01 p02 p03 : Pos} (F : FunD K x qual params body scope dvs kws f fd) (S : FnScope (["self", a] : List Str) (["self", a] : List Str) scope) (hb : body = [.Assign [.Attribute (.Name "self" p00) a p01] (.Name a p02) p03]) (T : OexC K C) (na0 : NoAttr K C a)
    (hd0 : (a == ("__debug__" : Str)) = false := by decide) (he0 : (a == ("__classdict__" : Str)) = false := by decide) :
    FnOk P w K mg base (L2N.CX P w) 1 f fd (["self", a] : List Str) (spInit C [a]) := by
  refine F.ok S (fun vs H Q E h => ?_) (fun cdv A outer s H vs Q E hr h => ?_)
  · obtain ⟨_, ys, e, h1, _⟩ := h
    rw [e]; exact congrArg Nat.succ h1
  · obtain ⟨o, ys, e, h1, h2, h3⟩ := h
    subst hb
    have v : ∀ (i : Nat) (y : Str), (["self", a] : List Str)[i]? = some y → Vis scope y := fun i y hy => (S.par y (List.mem_of_getElem? hy)).elim (fun z => .inl z) (fun z => .inr (.inl z))
    refine ⟨_, (pss_one (ps_ost (pe_var (i := 0) rfl (v 0 _ rfl)) (pe_var (i := 1) rfl (v 1 _ rfl) hd0 he0))), ?_⟩
    match ys, h1 with
    | [y0], _ =>
      subst e
      refine ⟨y0, rfl, .ref o, rfl, o, C, rfl, T, na0, .inl ⟨h2, fun dx hdx hne => ?_⟩⟩
      refine h3 dx _ hdx hne ?_ ?_ fun b hb1 hb2 => ?_
      · exact upd_same
      · rw [upd_ne hne, upd_same]; rfl
      · rw [upd_ne hb1, upd_ne hb2]
theorem init_ok2 {a b : Str} {p00 p01 p02 p03 p10 p11 p12 p13 : Pos} (F : FunD K x qual params body scope dvs kws f fd) (S : FnScope (["self", a, b] : List Str) (["self", a, b] : List Str) scope) (hb : body = [.Assign [.Attribute (.Name "self" p00) a p01] (.Name a p02) p03, .Assign [.Attribute (.Name "self" p10) b p11] (.Name b p12) p13]) (T : OexC K C) (na0 : NoAttr K C a) (na1 : NoAttr K C b)
    (hd0 : (a == ("__debug__" : Str)) = false := by decide) (he0 : (a == ("__classdict__" : Str)) = false := by decide) (hd1 : (b == ("__debug__" : Str)) = false := by decide) (he1 : (b == ("__classdict__" : Str)) = false := by decide) :
    FnOk P w K mg base (L2N.CX P w) 1 f fd (["self", a, b] : List Str) (spInit C [a, b]) := by
  refine F.ok S (fun vs H Q E h => ?_) (fun cdv A outer s H vs Q E hr h => ?_)
  · obtain ⟨_, ys, e, h1, _⟩ := h
    rw [e]; exact congrArg Nat.succ h1
  · obtain ⟨o, ys, e, h1, h2, h3⟩ := h
    subst hb
    have v : ∀ (i : Nat) (y : Str), (["self", a, b] : List Str)[i]? = some y → Vis scope y := fun i y hy => (S.par y (List.mem_of_getElem? hy)).elim (fun z => .inl z) (fun z => .inr (.inl z))
    refine ⟨_, (pss_cons (ps_ost (pe_var (i := 0) rfl (v 0 _ rfl)) (pe_var (i := 1) rfl (v 1 _ rfl) hd0 he0)) (pss_one (ps_ost (pe_var (i := 0) rfl (v 0 _ rfl)) (pe_var (i := 2) rfl (v 2 _ rfl) hd1 he1)))), ?_⟩
    match ys, h1 with
    | [y0, y1], _ =>
      subst e
      refine ⟨y0, rfl, .ref o, rfl, o, C, rfl, T, na0, .inl ⟨h2, fun dx hdx hne => ?_⟩⟩
      refine ⟨y1, rfl, .ref o, rfl, o, C, rfl, T, na1, .inr ⟨dx, _, upd_same, (by rw [upd_ne hne, upd_same]), (by simp), ?_⟩⟩
      refine h3 dx _ hdx hne ?_ ?_ fun b hb1 hb2 => ?_
      · rw [upd_ne hne.symm, upd_same]
      · rw [upd_same]; rfl
      · rw [upd_ne hb2, upd_ne hb1, upd_ne hb2]
theorem init_ok3 {a b c : Str} {p00 p01 p02 p03 p10 p11 p12 p13 p20 p21 p22 p23 : Pos} (F : FunD K x qual params body scope dvs kws f fd) (S : FnScope (["self", a, b, c] : List Str) (["self", a, b, c] : List Str) scope) (hb : body = [.Assign [.Attribute (.Name "self" p00) a p01] (.Name a p02) p03, .Assign [.Attribute (.Name "self" p10) b p11] (.Name b p12) p13, .Assign [.Attribute (.Name "self" p20) c p21] (.Name c p22) p23]) (T : OexC K C) (na0 : NoAttr K C a) (na1 : NoAttr K C b) (na2 : NoAttr K C c)
    (hd0 : (a == ("__debug__" : Str)) = false := by decide) (he0 : (a == ("__classdict__" : Str)) = false := by decide) (hd1 : (b == ("__debug__" : Str)) = false := by decide) (he1 : (b == ("__classdict__" : Str)) = false := by decide) (hd2 : (c == ("__debug__" : Str)) = false := by decide) (he2 : (c == ("__classdict__" : Str)) = false := by decide) :
    FnOk P w K mg base (L2N.CX P w) 1 f fd (["self", a, b, c] : List Str) (spInit C [a, b, c]) := by
  refine F.ok S (fun vs H Q E h => ?_) (fun cdv A outer s H vs Q E hr h => ?_)
  · obtain ⟨_, ys, e, h1, _⟩ := h
    rw [e]; exact congrArg Nat.succ h1
  · obtain ⟨o, ys, e, h1, h2, h3⟩ := h
    subst hb
    have v : ∀ (i : Nat) (y : Str), (["self", a, b, c] : List Str)[i]? = some y → Vis scope y := fun i y hy => (S.par y (List.mem_of_getElem? hy)).elim (fun z => .inl z) (fun z => .inr (.inl z))
    refine ⟨_, (pss_cons (ps_ost (pe_var (i := 0) rfl (v 0 _ rfl)) (pe_var (i := 1) rfl (v 1 _ rfl) hd0 he0)) (pss_cons (ps_ost (pe_var (i := 0) rfl (v 0 _ rfl)) (pe_var (i := 2) rfl (v 2 _ rfl) hd1 he1)) (pss_one (ps_ost (pe_var (i := 0) rfl (v 0 _ rfl)) (pe_var (i := 3) rfl (v 3 _ rfl) hd2 he2))))), ?_⟩
    match ys, h1 with
    | [y0, y1, y2], _ =>
      subst e
      refine ⟨y0, rfl, .ref o, rfl, o, C, rfl, T, na0, .inl ⟨h2, fun dx hdx hne => ?_⟩⟩
      refine ⟨y1, rfl, .ref o, rfl, o, C, rfl, T, na1, .inr ⟨dx, _, upd_same, (by rw [upd_ne hne, upd_same]), (by simp), ?_⟩⟩
      refine ⟨y2, rfl, .ref o, rfl, o, C, rfl, T, na2, .inr ⟨dx, _, (by rw [upd_ne hne.symm]; exact upd_same), upd_same, (by simp), ?_⟩⟩
      refine h3 dx _ hdx hne ?_ ?_ fun b hb1 hb2 => ?_
      · rw [upd_ne hne.symm, upd_ne hne.symm, upd_same]
      · rw [upd_same]; rfl
      · rw [upd_ne hb2, upd_ne hb2, upd_ne hb1, upd_ne hb2]
end
end DL
set_option Elab.async false
set_option linter.all false
set_option maxRecDepth 100000
set_option maxHeartbeats 4000000
/-! D layer, part Q: a list comprehension while an exception is handled. -/
namespace QL
open PySem PySem.Spec PyProof.Rows L2 HotX L2H

section
variable {prog : Program} {w : World} {A : Around} {E : Value → Shared → Prop} {s : Shared}
/-- the end of a list's iterator, an exception being handled -/
theorem nextList_end {it l x1 : Addr} {i : Nat} {items : Array Value} {Q : Option Value → Shared → Prop} (hot : HotAt A x1 s.heap) (nx : x1 ≠ it) (hit : s.heap.IsListIter it l i) (hl : s.heap.IsList l items) (hx : items[i]? = none)
    (hQ : ∀ h', Heap.ExtBut it s.heap h' → Q none { s with heap := h' }) : wpAny (model prog w) A (pyNext (.ref it)) Q E s := by
  obtain ⟨oi, hoi, ci, di⟩ := id hit
  obtain ⟨ox, hox, _, nn, dx⟩ := hl
  obtain ⟨hh, o1, vs1, h1, d1, c1⟩ := hot
  unfold pyNext
  refine wpAny_bind (wpAny_attempt (wpAny_callSpecial?_slot (name := Str.ofString "__next__") hit.typeIs slot_listiter_next (wpAny_call_entry slot_listiter_next hit.typeIs entry_listiter_next ?_ (args_listiter_next _))))
  show wpAny _ _ (field (.ref it) 0 >>= fun z => _) _ _ s
  refine wpAny_bind (wpAny_field hoi di (x := .ref l) rfl ?_)
  show wpAny _ _ (if (Value.ref l == Value.none) = true then _ else _) _ _ s
  rw [if_neg (show ¬ ((Value.ref l == Value.none) = true) by exact Bool.false_ne_true)]
  show wpAny _ _ (field (.ref it) 1 >>= fun z => _) _ _ s
  refine wpAny_bind (wpAny_field hoi di (x := .int i 0) rfl ?_)
  show wpAny _ _ (seqItems? (.ref l) >>= fun z => _) _ _ s
  refine wpAny_bind (wpAny_seqItems hox dx ?_)
  simp only [Int.toNat_natCast, hx]
  refine wpAny_bind (wpAny_rule (wpAny_bind (wpAny_setField hoi di (by simp) ?_)))
  show wpAny _ _ (newExc (.type "StopIteration") [] >>= fun z => _) _ _ _
  refine wpAny_bind ?_
  simp only [newExc, newTuple]
  refine wpAny_bind (wpAny_newObj_type ?_ (by size_fits))
  refine wpAny_bind (m := firstArgMember _ _) (wpAny_of_eq (a := Value.none) (by first | rfl | (simp only [firstArgMember]; rfl)) ?_)
  refine wpAny_newObj_type ?_ (by size_fits)
  have key : ∀ (b : Addr) (o : Obj) (f : Obj → Obj), b ≠ it → s.heap.get? b = some o → (s.heap.update it f).get? b = some o := fun b o f hb e => ((Heap.SameBut.update s.heap it f).2 b hb).trans e
  refine raiseNew_hot ⟨hh, o1, vs1, Heap.get?_push_of_some _ (Heap.get?_push_of_some _ (key x1 o1 _ nx h1)), d1, c1⟩ (Nat.ne_of_lt (Heap.lt_size (Heap.get?_push_of_some _ (key x1 o1 _ nx h1)))) (Heap.get?_push_size _ rfl) rfl (by first | (simp; done) | (simp; omega) | (simp only [Array.size_append]; simp; omega)) ?_
  refine wpAny_bind (wpAny_isInstance (T := "StopIteration") (b := true) ⟨_, Heap.get?_update_self _ (Heap.get?_push_size _ rfl) rfl, rfl⟩ isSubtype_stop ?_)
  refine wpAny_pure (hQ _ fun b o hb e => ?_)
  refine (Heap.get?_update_other _ _ (Nat.ne_of_gt (Heap.lt_size (Heap.get?_push_of_some _ (key b o _ hb e))))).trans (Heap.get?_push_of_some _ (Heap.get?_push_of_some _ (key b o _ hb e)))
end
/-- [t for t in e if t], a list of truth values, an exception being handled: the true ones -/
def tOnes (K : PySem.W.Frag) (tl : TE) : TE := fun σ H Q => tl σ H fun x H1 => ∃ (a : Addr) (xs : List Bool), x = .ref a ∧ SqL K H1 a (xs.map V.bl) ∧ xs.length < sizeLine ∧ ∀ D, H1 D = none → Q (.ref D) (upd H1 D (.lst ((xs.filter fun b => b).map V.bl)))
theorem pe_ones {X : Cx} {t : Str} {i : Nat} {iter : Expr} {tl : TE} {scope : Scope} {p1 p2 p3 pos : Pos} (hot : HotC X) (hN : X.N.Nodup) (hl : PE X iter tl) (hlen : i < X.N.length) (ok : BlkOk X.N X.env.scope scope [(t, i)])
    (hg : ∀ s H C cl fp, PG (X.blk s H scope (compEnvC scope cl C X.env) fp) (.Name t p2) (gName i))
    (ht : ∀ s H C cl fp, PT (X.blk s H scope (compEnvC scope cl C X.env) fp) (.Name t p3) (fun σ H Q => ∃ b, σ[i]? = some (some (.bl b)) ∧ Q b H))
    (he : ∀ s H C cl fp, PE (X.blk s H scope (compEnvC scope cl C X.env) fp) (.Name t p1) (tVar i)) (hs : ∀ x, foldedSetIterable iter X.env x = pure x := by intro _; rfl) :
    PE X (.ListComp (.Name t p1) [⟨.Name t p2, iter, [.Name t p3], 0⟩] scope pos) (tOnes X.K tl) := by
  obtain ⟨px, ⟨hh, pv, pd, pc⟩, hpx⟩ := hot
  refine ⟨fun pins s σ H Q I h => ?_⟩
  rw [eval_ListComp]
  have frees : ∀ y ∈ scope.names, y.2 = .free → ∃ c, X.env.cells.lookup y.1 = some c := fun y hy e => I.ok.has _ (ok.free y hy e)
  refine wpAny_comprehension_free (use := none) rfl hs (closure_ok frees) ok.kind (fun y hy e => (ok.uniq y hy).trans (congrArg some e)) ?_
  refine thn (hl.run pins s σ H _ I h) fun v s1 hv => ?_
  obtain ⟨x, H1, I1, r1, a, xs, ex, hq, hz, q⟩ := hv
  subst ex
  cases r1
  obtain ⟨its, rv, p, _⟩ := I1.list hq
  refine wpAny_pyIter_list p.isList ?_
  -- the iterator stands at it, the new list will stand at D
  obtain ⟨it, hit⟩ : ∃ it, it = s1.heap.objs.size := ⟨_, rfl⟩
  rw [← hit]
  obtain ⟨s2, hs2⟩ : ∃ u : Shared, u = { s1 with heap := s1.heap.push { cls := .type "list_iterator", data := .fields #[.ref a, .int 0 0] } } := ⟨_, rfl⟩
  have I2 : Inv X pins σ H1 s2 := by
    rw [hs2]
    exact I1.kept (t' := s1.toks) fun b o e => Heap.get?_push_of_some _ e
  have Li2 : s2.heap.IsListIter it a 0 := by
    rw [hs2, hit]
    exact ⟨_, Heap.get?_push_size _ rfl, rfl, rfl⟩
  have nIt : H1 it = none := I1.hok.fresh (Nat.le_of_eq hit.symm)
  have okIt : FpOk X pins H1 it := I1.fpOk (Nat.le_of_eq hit.symm) nIt
  show wpAny _ _ (newList []) _ _ _
  rw [← hs2]
  refine wpAny_newObj_type (newEnv_comp ?_) (by show 0 ≤ sizeLine; decide)
  obtain ⟨D, hD⟩ : ∃ D, D = s2.heap.objs.size := ⟨_, rfl⟩
  have lt : it < D := by rw [hD, hs2, hit]; exact Nat.lt_of_lt_of_eq (Nat.lt_succ_self _) (Heap.size_push ..).symm
  have nD : H1 D = none := I2.hok.fresh (Nat.le_of_eq hD.symm)
  obtain ⟨s3, hs3⟩ : ∃ u : Shared, u = { s2 with heap := s2.heap.push { cls := .type "list", data := .seq ([] : List Value).toArray } } := ⟨_, rfl⟩
  rw [← hs3, ← hD]
  have I3 : Inv X pins σ (upd H1 D (.lst [])) s3 := by
    rw [hs3]
    refine I2.laid (t' := s2.toks) (fun b o e => Heap.get?_push_of_some _ e) (Nat.le_of_eq hD.symm) ⟨Nat.zero_le _, [], 0, .nil, ?_⟩
    rw [hD]
    exact Heap.get?_push_size _ rfl
  have Li3 : s3.heap.IsListIter it a 0 := Li2.at fun o e => by rw [hs3]; exact Heap.get?_push_of_some _ e
  have ne : it ≠ D := Nat.ne_of_lt lt
  have ltS : it < s3.heap.objs.size := by
    obtain ⟨o, e, _⟩ := Li3
    exact Heap.lt_size e
  have ok3 : ∀ b ∈ [it], FpOk X pins (upd H1 D (.lst [])) b ∧ b < s3.heap.objs.size := fun b hb => by
    have e := List.mem_singleton.mp hb
    subst e
    exact ⟨⟨by rw [upd_ne ne]; exact nIt, okIt.2⟩, ltS⟩
  have I4 := block_start (fp := [it]) I3 ok hN ok3
  have pg := hg s3 (upd H1 D (.lst [])) s3.heap.objs.size (cellsFrom (s3.heap.objs.size + 1) scope.names (cloFrom X.env.cells scope.names [])) [it]
  have pt := ht s3 (upd H1 D (.lst [])) s3.heap.objs.size (cellsFrom (s3.heap.objs.size + 1) scope.names (cloFrom X.env.cells scope.names [])) [it]
  have pe := he s3 (upd H1 D (.lst [])) s3.heap.objs.size (cellsFrom (s3.heap.objs.size + 1) scope.names (cloFrom X.env.cells scope.names [])) [it]
  show codeAny _ _ (.compStart _ 0 (.ref it) (.ref D) (compEnvC scope (cellsFrom (s3.heap.objs.size + 1) scope.names (cloFrom X.env.cells scope.names [])) s3.heap.objs.size X.env)) (compPost (model X.prog X.w) X.A X.xe none _ (.ref D) s3.heap.objs.size) { s3 with heap := pushCells (s3.heap.push { cls := .type "dict", data := .dict #[] }) scope.names }
  obtain ⟨ce, hce⟩ : ∃ z, z = compEnvC scope (cellsFrom (s3.heap.objs.size + 1) scope.names (cloFrom X.env.cells scope.names [])) s3.heap.objs.size X.env := ⟨_, rfl⟩
  have cL : ce.locals = s3.heap.objs.size := by rw [hce]; rfl
  rw [← hce] at I4 pg pt pe ⊢
  obtain ⟨s4, hs4⟩ : ∃ u : Shared, u = { s3 with heap := pushCells (s3.heap.push { cls := .type "dict", data := .dict #[] }) scope.names } := ⟨_, rfl⟩
  rw [← hs4] at I4 ⊢
  have Li4 : s4.heap.IsListIter it a 0 := Li3.at fun o e => by rw [hs4]; exact pushCells_keeps _ _ _ _ (Heap.get?_push_of_some _ e)
  -- the exception that is handled stands throughout
  have hotB : ∀ {τ : L2.St} {G : Hp} {u : Shared}, Inv (X.blk s3 (upd H1 D (.lst [])) scope ce [it]) [] τ G u → HotAt X.A px.1 u.heap ∧ px.1 ≠ it := fun {τ G u} J => by
    obtain ⟨g1, g2, g3, g4, _⟩ := I3.pin px (List.mem_append_left _ hpx)
    have nf : px.1 ≠ it := okIt.2.2.2.2.2 px (List.mem_append_left _ hpx)
    have ns : px.1 ∉ frs X.stack := fun z => (List.mem_cons.mp (I3.stkSub _ z)).elim g3 g4
    exact ⟨⟨hh, px.2, pv, J.base.keep _ _ g1 g2 ns (fun z => nf (List.mem_singleton.mp z)), pd, pc⟩, nf⟩
  have hit4 : ∀ {τ : L2.St} {G : Hp} {u : Shared}, Inv (X.blk s3 (upd H1 D (.lst [])) scope ce [it]) [] τ G u → G it = none → FpOk (X.blk s3 (upd H1 D (.lst [])) scope ce [it]) [] G it := fun {τ G u} J n =>
    ⟨n, (J.ok.exf it List.mem_cons_self).1, J.ok.exfs it List.mem_cons_self, .inl List.mem_cons_self, fun x c e => (J.ok.exf it List.mem_cons_self).2 x c e, fun z hz => absurd (show z ∈ ([] : List (Addr × Obj)) ++ [] from hz) (by simp)⟩
  have lenN : (wipe σ [i]).length = X.N.length := (wipe_length σ [i]).trans I.len
  have sq : ∀ (G : List V), SqL X.K (upd H1 D (.lst G)) a (xs.map V.bl) := fun G => hq.elim (fun z => .inl (z.elim (fun e => .inl (by rw [upd_ne (ne_of_none e nD)]; exact e)) fun ⟨o, e⟩ => .inr ⟨o, by rw [upd_ne (ne_of_none e nD)]; exact e⟩)) .inr
  obtain ⟨acc, hacc⟩ : ∃ acc : Nat → List V, acc = fun j => ((xs.take j).filter fun b => b).map V.bl := ⟨_, rfl⟩
  have grow : ∀ (j : Nat) (hj : j < xs.length), acc (j + 1) = if xs[j] = true then acc j ++ [.bl xs[j]] else acc j := fun j hj => by
    rw [hacc]
    show List.map V.bl (List.filter (fun b => b) (xs.take (j + 1))) = _
    rw [List.take_succ_eq_append_getElem hj, List.filter_append, List.map_append]
    cases e : xs[j] <;> simp [e]
  have accLen : ∀ j, (acc j).length ≤ xs.length := fun j => by
    rw [hacc]
    show (List.map V.bl _).length ≤ _
    rw [List.length_map]
    exact Nat.le_trans (List.length_filter_le _ _) (by rw [List.length_take]; omega)
  have loop : codeAny (model X.prog X.w) X.A (.compLoop (.ListComp (.Name t p1) [⟨.Name t p2, iter, [.Name t p3], 0⟩] scope pos) 0 (.ref it) (.ref D) ce) (compPost (model X.prog X.w) X.A X.xe none (EP X pins σ Q) (.ref D) s3.heap.objs.size) s4 := by
    refine compLoop_any (fun n u => ∃ j, n = xs.length - j ∧ j ≤ xs.length ∧ Inv (X.blk s3 (upd H1 D (.lst [])) scope ce [it]) [] (wipe σ [i]) (upd H1 D (.lst (acc j))) u ∧ u.heap.IsListIter it a j) ?_ xs.length ⟨0, rfl, Nat.zero_le _, ?_, Li4⟩
    rotate_left
    · have e0 : acc 0 = [] := by rw [hacc]; rfl
      rw [e0]; exact I4
    rintro n u ⟨j, rfl, hj, J, Lj⟩
    have nit : upd H1 D (.lst (acc j)) it = none := by rw [upd_ne ne]; exact nIt
    obtain ⟨k0, k1, k2, k3, k4, k5⟩ := hit4 J nit
    obtain ⟨its', rv', p', _⟩ := J.list (sq (acc j))
    have hl' := rv'.length
    rw [List.length_map] at hl'
    by_cases hlt : j < xs.length
    · obtain ⟨w, hw, rw'⟩ := rv'.get (i := j) (x := V.bl xs[j]) (by rw [List.getElem?_map, List.getElem?_eq_getElem hlt]; rfl)
      refine wpAny_pyNext_list_item Lj p'.isList (x := w) (by simpa using hw) fun h' Lj' sb => ?_
      have J1 : Inv (X.blk s3 (upd H1 D (.lst [])) scope ce [it]) [] (wipe σ [i]) (upd H1 D (.lst (acc j))) { u with heap := h' } := J.turned (t' := u.toks) (fun b o hb e => (sb.2 b hb).trans e) k0 k1 k3 k4 k5
      have J1' := J1.pinned (fp := [it]) (fun b hb => by rw [List.mem_singleton.mp hb]; exact hit4 J1 nit) (fun b hb => by
        rw [List.mem_singleton.mp hb]
        obtain ⟨o, e, c, d⟩ := Lj'
        exact ⟨o, e, fun v z => by rw [d] at z; cases z⟩)
      refine wpAny_of_eq rfl ?_
      refine thnF (pg.run _ _ _ _ _ w (fun τ G => τ = (wipe σ [i]).set i (some (.bl xs[j])) ∧ G = upd H1 D (.lst (acc j))) J1' rw' ⟨rfl, rfl⟩) fun _ u2 hg2 => ?_
      obtain ⟨τ, G, J2, rfl, rfl⟩ := hg2
      have at_ : ((wipe σ [i]).set i (some (V.bl xs[j])))[i]? = some (some (.bl xs[j])) := List.getElem?_set_self (by rw [lenN]; exact hlen)
      refine thnF ((pts_one pt).run _ _ _ _ (fun b G => b = xs[j] ∧ G = upd H1 D (.lst (acc j))) J2 ⟨xs[j], at_, rfl, rfl⟩) fun b u3 hb3 => ?_
      obtain ⟨G, J3, rfl, rfl⟩ := hb3
      have fin : ∀ {v : Shared} {l : List V}, l = acc (j + 1) → Inv (X.blk s3 (upd H1 D (.lst [])) scope ce [it]) ([] ++ pinsAt [it] h') ((wipe σ [i]).set i (some (.bl xs[j]))) (upd H1 D (.lst l)) v →
          ∃ m, m < xs.length - j ∧ ∃ j', m = xs.length - j' ∧ j' ≤ xs.length ∧ Inv (X.blk s3 (upd H1 D (.lst [])) scope ce [it]) [] (wipe σ [i]) (upd H1 D (.lst (acc j'))) v ∧ v.heap.IsListIter it a j' := fun {v l} el Jv => by
        subst el
        refine ⟨xs.length - (j + 1), by omega, j + 1, rfl, hlt, (Jv.unpinned (pins := [])).weak (by rw [List.length_set]) (fun m y e => ?_), Lj'.at fun o e => (Jv.pin (it, o) (List.mem_append_right _ (List.mem_append_right _ (mem_pinsAt List.mem_cons_self e)))).1⟩
        obtain ⟨e1, e2⟩ := wipe_some e
        rw [List.getElem?_set_ne (fun z => e2 (by rw [z]; exact List.mem_cons_self))]
        exact e
      cases eb : xs[j] with
      | false =>
        rw [if_neg (by simp)]
        exact fin (by rw [grow j hlt, eb]; rfl) J3
      | true =>
        rw [if_pos rfl]
        refine thnF (pe.run _ _ _ _ (fun y G => y = .bl xs[j] ∧ G = upd H1 D (.lst (acc j))) J3 ⟨_, at_, rfl, rfl⟩) fun z u4 hz4 => ?_
        obtain ⟨y, G, J4, r4, rfl, rfl⟩ := hz4
        refine app_ok (X := X.blk s3 (upd H1 D (.lst [])) scope ce [it]) J4 upd_same (Nat.lt_of_le_of_lt (accLen j) hz) r4 fun u5 J5 => ?_
        refine fin (l := acc j ++ [.bl xs[j]]) (by rw [grow j hlt, eb]; rfl) ?_
        have e5 : upd (upd H1 D (.lst (acc j))) D (.lst (acc j ++ [.bl xs[j]])) = upd H1 D (.lst (acc j ++ [.bl xs[j]])) := by
          funext b
          by_cases hb : b = D
          · subst hb; rw [upd_same, upd_same]
          · rw [upd_ne hb, upd_ne hb, upd_ne hb]
        rw [e5] at J5
        exact J5
    · have ej : j = xs.length := Nat.le_antisymm hj (Nat.le_of_not_lt hlt)
      refine nextList_end (hotB J).1 (hotB J).2 Lj p'.isList (by simp; omega) fun h' eb => ?_
      have J1 : Inv (X.blk s3 (upd H1 D (.lst [])) scope ce [it]) [] (wipe σ [i]) (upd H1 D (.lst (acc j))) { u with heap := h' } := J.turned (t' := u.toks) (fun b o hb e => eb b o hb e) k0 k1 k3 k4 k5
      have I7 : Inv X pins σ (upd H1 D (.lst (acc j))) { u with heap := h' } := I3.call' (ch := [it]) J1.os J1.base J1.hok J1.bare fun b hb => ⟨(ok3 b hb).1.2.2.2.1, (ok3 b hb).1.2.1, (ok3 b hb).1.2.2.2.2.1, (ok3 b hb).1.2.2.2.2.2⟩
      have nC : upd H1 D (.lst (acc j)) s3.heap.objs.size = none := cL ▸ J1.free
      obtain ⟨m, hn, _⟩ := J1.loc
      have hn2 : h'.Ns s3.heap.objs.size m := cL ▸ hn
      obtain ⟨z0, z1, z2, z3, z4, z5⟩ := I3.fpOk (Nat.le_refl _) nC
      refine ⟨m, hn2, fun h'' sb => ⟨.ref D, upd H1 D (.lst (acc j)), I7.turned (t' := u.toks) (fun b o hb e => (sb.2 b hb).trans e) z0 z1 z3 z4 z5, rfl, ?_⟩⟩
      have e9 := q D nD
      rw [hacc, ej]
      show Q (V.ref D) (upd H1 D (.lst (((xs.take xs.length).filter fun b => b).map V.bl)))
      rw [List.take_length]
      exact e9
  exact codeAny_compStart_list loop (wpAny_pyIter_listiter Li4 loop)
end QL
set_option Elab.async false
set_option linter.all false
set_option maxRecDepth 100000
set_option maxHeartbeats 4000000
/-! D layer, part R: defs that run while an exception is handled. -/
namespace DL
open PySem PySem.Spec PyProof.Rows L2

/-- p's object is an exception of the class c, its fields are fs -/
def ExAt (K : PySem.W.Frag) (Hb : Hp) (p : Addr × Obj) (c : Str) (fs : List (Str × Dt)) : Prop :=
  ∃ d, L2N.Zn (.ref (He.ga K c)) d p.2 ∧ (∃ vs, p.2.data = .fields vs) ∧ ((d = none ∧ fs = []) ∨ ∃ dd gs, d = some dd ∧ Hb dd = some (.xd gs) ∧ RepF K Hb gs fs)
theorem ExAt.up {K : PySem.W.Frag} {Hb Hb1 : Hp} {p : Addr × Obj} {c : Str} {fs : List (Str × Dt)} (h : ExAt K Hb p c fs) (s : Same Hb Hb1) : ExAt K Hb1 p c fs := by
  obtain ⟨d, h1, h2, h3⟩ := h
  refine ⟨d, h1, h2, h3.imp id ?_⟩
  rintro ⟨dd, gs, e1, e2, e3⟩
  exact ⟨dd, gs, e1, s _ _ e2, e3.up s⟩
/-- what the class c must say -/
structure XcF (K : PySem.W.Frag) (c : Str) : Prop where
  cl : (PySem.W.clsIn K (He.ga K c)).isSome = true
  ga : PySem.W.findIn K (.ref (He.ga K c)) "__getattribute__" = some (some (.builtin "BaseException.__getattribute__"))
  gg : PySem.W.findIn K (.ref (He.ga K c)) "__getattr__" = some none
  exC : PySem.W.subIn K (.ref (He.ga K c)) (.type "BaseException") = some true
  hdC : PySem.W.hasDictIn K (He.ga K c) = true
  cc : PySem.W.findIn K (.ref (He.ga K c)) "__class__" = some (some (.builtin "object.__class__"))
  cg : PySem.W.specialIn K (.builtin "object.__class__") "__get__" = some (some (.builtin "getset_descriptor.__get__"))
  ct : PySem.W.takesIn K (.builtin "object.__class__") = some true
  cm : PySem.W.mroIn K (He.ga K c) (.type "object") = some true
def xcB (K : PySem.W.Frag) (c : Str) : Bool := (PySem.W.clsIn K (He.ga K c)).isSome && (decide (PySem.W.findIn K (.ref (He.ga K c)) "__getattribute__" = some (some (.builtin "BaseException.__getattribute__"))) && (decide (PySem.W.findIn K (.ref (He.ga K c)) "__getattr__" = some none) &&
  (decide (PySem.W.subIn K (.ref (He.ga K c)) (.type "BaseException") = some true) && (PySem.W.hasDictIn K (He.ga K c) && (decide (PySem.W.findIn K (.ref (He.ga K c)) "__class__" = some (some (.builtin "object.__class__"))) &&
  (decide (PySem.W.specialIn K (.builtin "object.__class__") "__get__" = some (some (.builtin "getset_descriptor.__get__"))) && (decide (PySem.W.takesIn K (.builtin "object.__class__") = some true) && decide (PySem.W.mroIn K (He.ga K c) (.type "object") = some true))))))))
theorem xcB_ok {K : PySem.W.Frag} {c : Str} (h : xcB K c = true) : XcF K c := by
  obtain ⟨h1, h⟩ := Bool.and_eq_true_iff.mp h
  obtain ⟨h2, h⟩ := Bool.and_eq_true_iff.mp h
  obtain ⟨h3, h⟩ := Bool.and_eq_true_iff.mp h
  obtain ⟨h4, h⟩ := Bool.and_eq_true_iff.mp h
  obtain ⟨h5, h⟩ := Bool.and_eq_true_iff.mp h
  obtain ⟨h6, h⟩ := Bool.and_eq_true_iff.mp h
  obtain ⟨h7, h⟩ := Bool.and_eq_true_iff.mp h
  obtain ⟨h8, h9⟩ := Bool.and_eq_true_iff.mp h
  exact ⟨h1, of_decide_eq_true h2, of_decide_eq_true h3, of_decide_eq_true h4, h5, of_decide_eq_true h6, of_decide_eq_true h7, of_decide_eq_true h8, of_decide_eq_true h9⟩
/-- the classes asked for, by isinstance: an own one (.inl), a built-in one (.inr) -/
abbrev Cn := Str ⊕ String
def Cn.v (K : PySem.W.Frag) : Cn → Value
  | .inl c => .ref (He.ga K c)
  | .inr t => .type t
/-- where a handled exception is known: p of the class c with the fields fs -/
structure HotK (X : Cx) (G : Lk) (p : Addr × Obj) (c : Str) (fs : List (Str × Dt)) : Prop where
  hot : L2H.Hot1 X.A p
  mem : p ∈ X.pn
  at_ : ∀ F Hb, G.g F Hb → ExAt X.K Hb p c fs
  cls : XcF X.K c
section
variable {X : Cx} {G : Lk} {p : Addr × Obj} {c : Str} {fs : List (Str × Dt)} {e : Expr} {t : DTE} {pos : Pos}
theorem HotK.hc (h : HotK X G p c fs) : L2H.HotC X := ⟨p, h.hot, h.mem⟩
/-- isinstance(e, C), e the exception -/
def dIsE (a : Addr) (b : Bool) (t : DTE) : DTE := fun ds M Q => t ds M fun x M1 => x = .cel a ∧ Q (.bl b) M1
theorem inst_ex {pins : List (Addr × Obj)} {σ : L2.St} {F : Fo} {Hb H : Hp} {M : Mm} {s : Shared} (hm : p ∈ X.pn) (I : Inv X pins σ H s) (O : Own X.K F M Hb H) (h : ExAt X.K Hb p c fs) :
    ∃ od, PySem.W.InstAt s.heap p.1 p.2 (He.ga X.K c) od ∧ ∀ f d, fs.lookup f = some d → ∃ o, od = some o ∧ ∃ v u, Rep X.K Hb v d ∧ RelV v u ∧ PySem.W.lookIn f o = some (some u) := by
  obtain ⟨dd, hz, ⟨vs, hv⟩, hd⟩ := h
  have ha := (I.pin p (List.mem_append_left _ hm)).1
  have nc : PySem.W.notCls p.2 = true := by unfold PySem.W.notCls; rw [hv] <;> rfl
  rcases hd with ⟨rfl, rfl⟩ | ⟨dx, gs, rfl, e2, r2⟩
  · exact ⟨none, ⟨ha, hz.1, nc, by rw [hz.2.1]; trivial⟩, fun f d z => by cases z⟩
  · obtain ⟨mA, hns, hr⟩ : ObjOk X.prog X.w H s.heap dx (.xd gs) := I.hok dx _ (O.same _ _ e2)
    obtain ⟨od, ho, hl⟩ := lookIn_ns hns
    refine ⟨some od, ⟨ha, hz.1, nc, by rw [hz.2.1]; exact ho⟩, fun f d z => ?_⟩
    obtain ⟨v, e3, r3⟩ := (RepF.look r2).1 d z
    obtain ⟨u, hu, ru⟩ := RelO.some_of (v := v) (o := mA f) (by rw [← e3]; exact hr f)
    exact ⟨od, rfl, v, u, r3, ru, by rw [hl, hu]⟩
def rIsX (X : Cx) (p : Addr × Obj) (c : Str) (fs : List (Str × Dt)) : List V → Hp → VK → Prop := fun xs H Q => ∃ (F : Fo) (Hb : Hp) (M : Mm) (y : V) (cv : Value) (b : Bool), Own X.K F M Hb H ∧ ExAt X.K Hb p c fs ∧ xs = [.ref p.1, y] ∧ (∀ u, RelV y u → u = cv) ∧
  PySem.W.kitOne X.K (.ref (He.ga X.K c)) cv = some b ∧ Q (.bl b) H
theorem call_isX (hm : p ∈ X.pn) (C : XcF X.K c) : CallR X (.builtin "isinstance") (rIsX X p c fs) := by
  intro pins s σ H xs us Q I r h
  obtain ⟨F, Hb, M, y, cv, b, O, hx, rfl, hcv, e, q⟩ := h
  cases r with
  | cons rx rr =>
    cases rr with
    | cons rt rr =>
      cases rr
      cases rx
      have ec := hcv _ rt
      subst ec
      obtain ⟨od, J, _⟩ := inst_ex hm I O hx
      exact PySem.W.kia_one (PySem.W.kitx_exc C.cl C.ga C.gg C.exC C.cc C.cg C.ct C.cm) I.kIn J e (fun z => nomatch z) fun tk => ⟨.bl b, H, I.kept (t' := tk) fun _ _ z => z, rfl, q⟩
theorem le_isE {ta : TE} {y : V} {cv : Value} {b : Bool} (h : HotK X G p c fs) (la : LE X.K G ta t) (hcv : ∀ u, RelV y u → u = cv) (hk : PySem.W.kitOne X.K (.ref (He.ga X.K c)) cv = some b) :
    LE X.K G (tCB (rIsX X p c fs) (tCons ta (tCons (tC y) tNil))) (dIsE p.1 b t) := by
  refine ⟨fun hq h1 => la.mono (fun x M1 h2 => ⟨h2.1, hq _ _ h2.2⟩) h1, fun {F σ ds Hb H M Q} g O S h1 => la.run g O S (la.mono (fun x M1 h2 v Hb1 H1 s1 O1 r1 => ?_) h1)⟩
  obtain ⟨rfl, h2⟩ := h2
  cases r1
  exact ⟨F, Hb1, M1, y, cv, b, O1, (h.at_ _ _ (G.up g s1)), rfl, hcv, hk, h2 _ _ _ s1 O1 .bl⟩
/-- isinstance(e, C), C a class of the program -/
theorem de_isE {C : Str} {b : Bool} {p1 p2 : Pos} (h : HotK X G p c fs) (he : DE X G e t) (hg : Gl X "isinstance") (hm : X.mg "isinstance" = none) (hgC : Gl X C) (hmC : X.mg C = some (.ref (He.ga X.K C))) (hk : PySem.W.kitOne X.K (.ref (He.ga X.K c)) (.ref (He.ga X.K C)) = some b)
    (hd : (C == ("__debug__" : Str)) = false := by decide) (hs : starEach [e, .Name C p2] X.env = (false, eval e X.env) :: starEach [.Name C p2] X.env := by rfl) (hs2 : starEach [.Name C p2] X.env = [(false, eval (.Name C p2) X.env)] := by rfl) :
    DE X G (.Call (.Name "isinstance" p1) [e, .Name C p2] [] pos) (dIsE p.1 b t) := by
  obtain ⟨ta, pa, la⟩ := he
  exact ⟨_, pe_callB (call_isX h.mem h.cls) hg hm (by decide +kernel) (pa_cons pa (pa_cons (pe_glob (v := .ref (He.ga X.K C)) hgC hmC rfl hd) pa_nil hs2) hs) (by decide) (by decide) hs (by rw [hs2]; rfl), le_isE h la (fun u hu => hu) hk⟩
/-- isinstance(e, T), T a built-in class -/
theorem de_isT {n : Str} {T : String} {b : Bool} {p1 p2 : Pos} (h : HotK X G p c fs) (he : DE X G e t) (hg : Gl X "isinstance") (hm : X.mg "isinstance" = none) (hgT : Gl X n) (hmT : X.mg n = none) (hk : PySem.W.kitOne X.K (.ref (He.ga X.K c)) (.type T) = some b)
    (hv : bootBuiltins n = some (.type T) := by decide +kernel) (hn : n ≠ "__name__" := by decide) (hd : (n == ("__debug__" : Str)) = false := by decide) (hs : starEach [e, .Name n p2] X.env = (false, eval e X.env) :: starEach [.Name n p2] X.env := by rfl)
    (hs2 : starEach [.Name n p2] X.env = [(false, eval (.Name n p2) X.env)] := by rfl) : DE X G (.Call (.Name "isinstance" p1) [e, .Name n p2] [] pos) (dIsE p.1 b t) := by
  obtain ⟨ta, pa, la⟩ := he
  exact ⟨_, pe_callB (call_isX h.mem h.cls) hg hm (by decide +kernel) (pa_cons pa (pa_cons (pe_bltn (v := .ty T) hgT hmT hv rfl hn hd) pa_nil hs2) hs) (by decide) (by decide) hs (by rw [hs2]; rfl), le_isE h la (fun u hu => hu) hk⟩
/-- e.f, e the exception -/
def dXf (a : Addr) (fs : List (Str × Dt)) (f : Str) (t : DTE) : DTE := fun ds M Q => t ds M fun x M1 => x = .cel a ∧ ∃ d, fs.lookup f = some d ∧ Q d M1
def tXfX (X : Cx) (p : Addr × Obj) (c : Str) (fs : List (Str × Dt)) (f : Str) (te : TE) : TE := fun σ H Q => te σ H fun x H1 => x = .ref p.1 ∧ ∃ F Hb M d, Own X.K F M Hb H1 ∧ ExAt X.K Hb p c fs ∧ fs.lookup f = some d ∧ ∀ v, Rep X.K Hb v d → Q v H1
theorem pe_xfX {f : Str} {te : TE} (hm : p ∈ X.pn) (C : XcF X.K c) (hno : PySem.W.findIn X.K (.ref (He.ga X.K c)) f = some none) (he : PE X e te) (hb : attributeBase e f X.env (eval e X.env) = eval e X.env) : PE X (.Attribute e f pos) (tXfX X p c fs f te) := by
  refine ⟨fun pins s σ H Q I h => ?_⟩
  refine attr_of hb (thn (he.run pins s σ H _ I h) fun u s1 hh => ?_)
  obtain ⟨x, H1, I1, rx, ex, F, Hb, M, d, O, hx, l, q⟩ := hh
  subst ex
  obtain rfl : u = Value.ref p.1 := rx
  obtain ⟨od, J, k⟩ := inst_ex hm I1 O hx
  obtain ⟨o, rfl, v, u, rv, ru, hl⟩ := k f d l
  exact HandSPX.exc_get I1.kIn J C.ga C.gg C.exC (PySem.W.findObj_own C.hdC hno rfl hl) (handed_of ru) ⟨v, H1, I1.tok _, ru, q v rv⟩
theorem de_xf {f : Str} (h : HotK X G p c fs) (he : DE X G e t) (hno : PySem.W.findIn X.K (.ref (He.ga X.K c)) f = some none) (hb : attributeBase e f X.env (eval e X.env) = eval e X.env := by rfl) : DE X G (.Attribute e f pos) (dXf p.1 fs f t) := by
  obtain ⟨ta, pa, la⟩ := he
  refine ⟨_, pe_xfX (fs := fs) h.mem h.cls hno pa hb, ⟨fun hq h1 => la.mono (fun x M1 ⟨h2, d, h3, h4⟩ => ⟨h2, d, h3, hq _ _ h4⟩) h1, fun {F σ ds Hb H M Q} g O S h1 => la.run g O S (la.mono (fun x M1 h2 v Hb1 H1 s1 O1 r1 => ?_) h1)⟩⟩
  obtain ⟨rfl, d, h3, h4⟩ := h2
  cases r1
  exact ⟨rfl, F, Hb1, M1, d, O1, h.at_ _ _ (G.up g s1), h3, fun v rv => h4 v Hb1 H1 s1 O1 rv⟩
/-- [x for x in e if x], truth values -/
def dOnes (t : DTE) : DTE := fun ds M Q => t ds M fun x M1 => ∃ bs : List Bool, rview M1 x = some (bs.map Dt.bl) ∧ bs.length < sizeLine ∧ Q (.lst ((bs.filter fun b => b).map Dt.bl)) M1
theorem rep_bls {K : PySem.W.Frag} {H : Hp} : ∀ {vs : List V} {bs : List Bool}, RepL K H vs (bs.map Dt.bl) → vs = bs.map V.bl
  | [], [], _ => rfl
  | _ :: _, [], h => nomatch h
  | [], _ :: _, h => nomatch h
  | v :: vs, b :: bs, h => by
    cases h with
    | cons r t => cases r; rw [rep_bls t]; rfl
theorem bls_rep {K : PySem.W.Frag} {H : Hp} : ∀ {bs : List Bool}, RepL K H (bs.map V.bl) (bs.map Dt.bl)
  | [] => .nil
  | _ :: _ => .cons .bl bls_rep
theorem de_ones {x : Str} {i : Nat} {scope : Scope} {p1 p2 p3 : Pos} (hot : L2H.HotC X) (hN : X.N.Nodup) (he : DE X G e t) (hlen : i < X.N.length) (ok : blkC X.N X.env.scope scope [(x, i)] = true)
    (hg : ∀ s H C cl fp, PG (BX X scope s H C cl fp) (.Name x p2) (gName i)) (hv : ∀ (p1 : Pos) s H C cl fp, PE (BX X scope s H C cl fp) (.Name x p1) (tVar i)) (htr : ∀ s H C cl fp whole, isTrue (.Name x p3) (BX X scope s H C cl fp).env whole = (do let v ← whole; standAt p3; holding [v] (truthy v)) := by intro _ _ _ _ _ _; rfl)
    (hs : ∀ x, foldedSetIterable e X.env x = pure x := by intro _; rfl) : DE X G (.ListComp (.Name x p1) [⟨.Name x p2, e, [.Name x p3], 0⟩] scope pos) (dOnes t) := by
  obtain ⟨ta, pa, la⟩ := he
  refine ⟨_, QL.pe_ones hot hN pa hlen (blkOk_by ok) hg (fun s H C cl fp => ?_) (hv p1) hs, ⟨fun hq h1 => la.mono (fun x M1 ⟨bs, h2, h3, h4⟩ => ⟨bs, h2, h3, hq _ _ h4⟩) h1, fun {F σ ds Hb H M Q} g O S h1 => la.run g O S (la.mono (fun x M1 h2 v Hb1 H1 s1 O1 r1 => ?_) h1)⟩⟩
  · refine ⟨fun pins s σ H Q I h => ?_⟩
    obtain ⟨b, e1, e2⟩ := h
    exact (pt_val (hv p3 _ _ _ _ _) (htr _ _ _ _ _)).run pins s σ H Q I ⟨.bl b, e1, b, rfl, e2⟩
  · obtain ⟨bs, h2, h3, h4⟩ := h2
    obtain ⟨a, vs, rfl, e2, r2⟩ := rview_run O1 r1 h2
    have ev := rep_bls r2
    subst ev
    refine ⟨a, bs, rfl, e2, h3, fun D hD => ?_⟩
    have sn := same_new (o := HO.lst ((bs.filter fun b => b).map V.bl)) (O1.free hD).1
    exact h4 _ _ _ (s1.trans sn) (O1.new hD) (.lst upd_same bls_rep)
end
/-! ### defs called there -/
/-- a def that knows nothing of the exception -/
structure DFh (P : Program) (w : World) (K : PySem.W.Frag) (mg : Str → Option Value) (base : Heap) (k : Nat) (fa : Addr) (f : DSp) : Prop where
  kp : PySem.W.keepIn K (.ref fa) = true
  ex : ∃ (fd : FuncData) (ps : List Str), L2H.FnH P w K mg base (L2N.CX P w) k fa fd ps (spOf K f) ∧ Binds K fd ps []
theorem DFh.mono {P : Program} {w : World} {K : PySem.W.Frag} {mg : Str → Option Value} {base : Heap} {j k : Nat} {fa : Addr} {f : DSp} (F : DFh P w K mg base j fa f) (h : j ≤ k) : DFh P w K mg base k fa f := by
  obtain ⟨fd, ps, h1, h2⟩ := F.ex
  exact ⟨F.kp, fd, ps, ⟨h1.len, fun A outer s H args us vs Q E p hr => h1.run A outer s H args us vs Q E p (hr.mono h)⟩, h2⟩
/-- the body, walked in any such context -/
def WalkH (P : Program) (w : World) (K : PySem.W.Frag) (mg : Str → Option Value) (base : Heap) (N : List Str) (qual : Str) (scope : Scope) (f : Addr) (k : Nat) (body : List Stmt) (bd : DX → DTS) : Prop :=
  ∀ (cdv : Value) (A : Around) (outer : List Env) (s : Shared) (H : Hp) (E : XK) (p : Addr × Obj) (G : Lk), L2H.Hot1 A p → L2H.RoomH k (A.deeper (envOfC qual scope s.heap.objs.size f cdv)) →
    DSs (L2H.cxH (L2N.CX P w) P w K mg base N qual scope f cdv A outer s H E p) G body (bd X0)
section
variable {P : Program} {w : World} {K : PySem.W.Frag} {mg : Str → Option Value} {base : Heap} {x qual : Str} {params : Arguments} {body : List Stmt} {scope : Scope} {kws : List (Str × V)} {f : Addr} {fd : FuncData}
theorem def_okH {N ps : List Str} {k n m : Nat} {bd : DX → DTS} (F : FunD K x qual params body scope [] kws f fd) (S : FnScope N ps scope) (W : WalkH P w K mg base N qual scope f k body bd)
    (bx : ∀ {XX : DX} {D : DEnds} {ds : DSt} {M : Mm}, bd XX D ds M → bd X0 D ds M) (hn : ps.length = n := by rfl) (hm : N.length = m := by rfl) :
    L2H.FnH P w K mg base (L2N.CX P w) (k + 1) f fd ps (spOf K (spD n m bd)) := by
  subst hn hm
  obtain ⟨oc, od, dV, kV, doc, pm, an, cdv, ct, osl, rfl, lk, hcd, hD, _⟩ := F.ex
  refine L2H.fn_ofH lk hcd S (fun vs H Q E h => ?_) (fun A outer s H vs Q E p hot hr h => ?_)
  · obtain ⟨F0, Hb, M, xs, QD, XD, O, r, h1, _⟩ := h
    rw [r.length]; exact h1.1
  · obtain ⟨F0, Hb, M, xs, QD, XD, O, r, ⟨h1, h2⟩, hq, hx⟩ := h
    obtain ⟨t, pt, lt⟩ := W cdv A outer s H E p Lk.any hot hr
    refine ⟨t, pt, ?_⟩
    refine lt.run (D := { nx := fun _ H' => Q .non H', rt := Q }) trivial O (srep_start r) (lt.mono (D := { nx := fun _ M1 => QD .non M1, rt := QD }) ⟨fun ds M1 z => ?_, fun x M1 z => hq x M1 z, fun _ _ z => z.elim, fun _ _ z => z.elim⟩ (bx h2))
    intro σ Hb' H' s' O' S'
    exact hq _ _ z .non Hb' H' s' O' .non
end
section
variable {X : Cx} {G : Lk} {x : Str} {pos : Pos} {e : Expr} {es : List Expr} {t : DTA} {f : DSp} {k : Nat} {fa : Addr}
theorem passAt0 {X : Cx} (σ : L2.St) : PassesAt (L2N.CX X.prog X.w) X σ E0 := fun _ _ _ _ _ _ h => by
  obtain ⟨_, _, _, _, _, _, _, _, _, _, _, _, z⟩ := h
  exact z.elim
theorem de_callH {p1 : Pos} (F : DFh X.prog X.w X.K X.mg X.base k fa f) (hr : L2H.RoomH k X.A) (hot : L2H.HotC X) (hg : Gl X x) (hm : X.mg x = some (.ref fa)) (ha : DA X G (e :: es) t)
    (hdb : (x == ("__debug__" : Str)) = false := by decide) (he : starEach (e :: es) X.env = (false, eval e X.env) :: starEach es X.env := by rfl) (hpl : (backTo pos (starEach es X.env)).any (·.1) = false := by rfl) :
    DE X G (.Call (.Name x p1) (e :: es) [] pos) (dCall f [] X0 t) := by
  obtain ⟨ta, pa, la⟩ := ha
  obtain ⟨fd, ps, ok, bd⟩ := F.ex
  refine ⟨_, L2H.pe_callH (E := fun _ => E0) ok hr hot hg hm F.kp bd passAt0 pa hdb he hpl, ⟨fun hq h => la.mono (fun xs M1 h1 => upQ_mono hq h1) h, fun {F σ ds Hb H M Q} g O S h => ?_⟩⟩
  refine la.run g O S (la.mono (fun xs M1 h1 vs Hb1 H1 s1 O1 r1 => ?_) h)
  rw [List.append_nil] at h1
  exact upQ_run s1 O1 r1 (fun _ _ _ z => z.elim) h1
/-- for over range, an exception being handled -/
def DIh (X : Cx) (G : Lk) (tg it : Expr) (d : DTI) : Prop := ∃ t, L2H.PIH X tg it t ∧ LI X.K G t d
theorem di_range1H {tg a : Expr} {p1 : Pos} {u : DTA} (hg : Gl X "range") (hm : X.mg "range" = none) (ha : DA X G [a] u) (hs : starEach [a] X.env = [(false, eval a X.env)] := by rfl) : DIh X G tg (.Call (.Name "range" p1) [a] [] pos) (dRng1 u) := by
  obtain ⟨ta, pa, la⟩ := ha
  refine ⟨_, L2H.pi_range1H hg hm pa hs, ⟨fun hr h => la.mono (fun xs M1 h1 => ?_) h, fun {F σ ds Hb H M R} g O S h => la.run g O S (la.mono (fun xs M1 h1 vs Hb1 H1 s1 O1 r1 => ?_) h)⟩⟩
  · split at h1
    · exact ⟨h1.1, h1.2.1, hr _ _ h1.2.2⟩
    · exact h1.elim
  · split at h1
    · cases r1 with
      | cons r2 r3 => cases r2; cases r3; exact ⟨_, rfl, h1.1, h1.2.1, h1.2.2 _ _ _ s1 O1 itr_ok⟩
    · exact h1.elim
theorem ds_forH {tg iter : Expr} {body : List Stmt} {w : DTI} {g : DTG} {b : DTS} (hp : PassesOwn (model X.prog X.w) X.A X.env X.xe) (hot : L2H.HotC X) (hi : DIh X G tg iter w) (hg : DGt X G tg g) (hb : DSs X G body b)
    (hs : ∀ x, foldedSetIterable iter X.env x = pure x := by intro _; rfl) : DS X G (.For tg iter body [] pos) (dFor w g b) := by
  obtain ⟨t1, p1, l1⟩ := hi
  obtain ⟨t2, p2, l2⟩ := hg
  obtain ⟨t3, p3, l3⟩ := hb
  exact ⟨_, L2H.ps_forH hp hot p1 p2 p3 hs, ls_for l1 l2 l3⟩
end
/-! ### defs that are handed the exception -/
theorem run_hot {CX : CXT} {P : Program} {w : World} {K : PySem.W.Frag} {mg : Str → Option Value} {base : Heap} {x qual : Str} {params : Arguments} {body : List Stmt} {scope : Scope} {kws : List (Str × V)} {f : Addr} {fd : FuncData} {N ps : List Str} {k : Nat}
    (F : FunD K x qual params body scope [] kws f fd) (S : FnScope N ps scope) {A : Around} {outer : List Env} {s : Shared} {H : Hp} {us : List Value} {vs : List V} {Q : VK} {E : XK} {p : Addr × Obj} (hr : L2H.RoomH (k + 1) A) (hot : L2H.Hot1 A p) (pin : L2H.PinOk outer H s p)
    (e0 : Env0 P w K mg base A outer s H) (hb : BindsTo s fd ⟨us, []⟩ (ps.zip us)) (r : Vals vs us) (hl : vs.length = ps.length)
    (hbody : ∀ cdv, L2H.RoomH k (A.deeper (envOfC qual scope s.heap.objs.size f cdv)) → ∃ t, PSs (L2H.cxH CX P w K mg base N qual scope f cdv A outer s H E p) body t ∧ t { nx := fun _ H' => Q .non H', rt := Q } (L2.start N vs) H) :
    codeAny (model P w) A (.call (.ref f) ⟨us, []⟩) (CR CX outer P w H s Q E) s := by
  obtain ⟨oc, od, dV, kV, doc, pm, an, cdv, ct, osl, rfl, lk, hcd, _, _⟩ := F.ex
  have kin : K.In s.heap := e0.mod.kin.keeps fun b o e => (e0.bs b o e).1
  refine codeAny_call_function hr.depth (kin _ _ lk) rfl S.co S.gen rfl (PySem.W.codeRec_of kin hcd) (hb _ _ _ _ ?_)
  refine wpAny_newFunctionEnv_cells S.kind (fun y hy => ?_) fun env he s1 x => ?_
  · obtain ⟨n, v⟩ := y
    rcases S.par n (List.of_mem_zip hy).1 with q | q
    · exact .inl q
    · exact .inr ⟨q, PySem.W.cellsFrom_some _ _ _ (.inl q)⟩
  subst he
  refine ⟨(e0.mod.nolimit.keeps fun b o e => (e0.bs b o e).1).keeps x.toInCall.keep, codeAny_func ?_⟩
  obtain ⟨t, ht, hq⟩ := hbody cdv (hr.deeper _)
  refine wpAny_mono (ht.run [] s1 _ H _ (L2H.inv_startH S pin e0 hl r x) hq) (fun fl s' hs => ?_) fun e s' hs => hs
  cases fl with
  | ret u =>
    obtain ⟨v, τ, G, J, rv, q⟩ := hs
    exact ⟨v, G, J.os, J.bare, J.base, J.hok, rv, q⟩
  | next =>
    obtain ⟨τ, G, J, q⟩ := hs
    exact ⟨.non, G, J.os, J.bare, J.base, J.hok, rfl, q⟩
  | brk => exact hs.choose_spec.choose_spec.2.elim
  | cont => exact hs.choose_spec.choose_spec.2.elim
abbrev DSe := Addr → List (Str × Dt) → DSp
structure DFe (P : Program) (w : World) (K : PySem.W.Frag) (mg : Str → Option Value) (base : Heap) (k : Nat) (fa : Addr) (n : Nat) (c : Str) (f : DSe) : Prop where
  kp : PySem.W.keepIn K (.ref fa) = true
  ex : ∃ (fd : FuncData) (ps : List Str), ps.length = n ∧ Binds K fd ps [] ∧ ∀ (A : Around) (outer : List Env) (s : Shared) (H : Hp) (us : List Value) (vs : List V) (Q : VK) (p : Addr × Obj) (fs : List (Str × Dt)) (F : Fo) (Hb : Hp) (M : Mm) (xs : List Dt) (QD : DQ),
    L2H.RoomH k A → L2H.Hot1 A p → L2H.PinOk outer H s p → Env0 P w K mg base A outer s H → vs.length = ps.length → BindsTo s fd ⟨us, []⟩ (ps.zip us) → Vals vs us → Own K F M Hb H → RepL K Hb vs xs → ExAt K Hb p c fs → f p.1 fs xs M QD X0 →
    (∀ x M', QD x M' → Cl K F Hb Q x M') → codeAny (model P w) A (.call (.ref fa) ⟨us, []⟩) (CR (L2N.CX P w) outer P w H s Q E0) s
theorem DFe.mono {P : Program} {w : World} {K : PySem.W.Frag} {mg : Str → Option Value} {base : Heap} {j k : Nat} {fa : Addr} {n : Nat} {c : Str} {f : DSe} (F : DFe P w K mg base j fa n c f) (h : j ≤ k) : DFe P w K mg base k fa n c f := by
  obtain ⟨fd, ps, h0, h1, h2⟩ := F.ex
  exact ⟨F.kp, fd, ps, h0, h1, fun A outer s H us vs Q p fs F Hb M xs QD hr => h2 A outer s H us vs Q p fs F Hb M xs QD (hr.mono h)⟩
/-- where the exception p stands still -/
def Lk.ex (K : PySem.W.Frag) (p : Addr × Obj) (c : Str) (fs : List (Str × Dt)) : Lk := ⟨fun _ Hb => ExAt K Hb p c fs, fun h s => h.up s⟩
def WalkE (P : Program) (w : World) (K : PySem.W.Frag) (mg : Str → Option Value) (base : Heap) (N : List Str) (qual : Str) (scope : Scope) (f : Addr) (k : Nat) (body : List Stmt) (c : Str) (bd : Addr → List (Str × Dt) → DX → DTS) : Prop :=
  ∀ (cdv : Value) (A : Around) (outer : List Env) (s : Shared) (H : Hp) (E : XK) (p : Addr × Obj) (G : Lk) (fs : List (Str × Dt)), L2H.RoomH k (A.deeper (envOfC qual scope s.heap.objs.size f cdv)) →
    HotK (L2H.cxH (L2N.CX P w) P w K mg base N qual scope f cdv A outer s H E p) G p c fs → DSs (L2H.cxH (L2N.CX P w) P w K mg base N qual scope f cdv A outer s H E p) G body (bd p.1 fs X0)
section
variable {P : Program} {w : World} {K : PySem.W.Frag} {mg : Str → Option Value} {base : Heap} {x qual : Str} {params : Arguments} {body : List Stmt} {scope : Scope} {kws : List (Str × V)} {f : Addr} {fd : FuncData}
theorem def_okE {N ps : List Str} {k n m : Nat} {c : Str} {bd : Addr → List (Str × Dt) → DX → DTS} (F : FunD K x qual params body scope [] kws f fd) (S : FnScope N ps scope) (C : XcF K c) (W : WalkE P w K mg base N qual scope f k body c bd) (b : Binds K fd ps []) (hn : ps.length = n := by rfl) (hm : N.length = m := by rfl) :
    DFe P w K mg base (k + 1) f n c (fun a fs => spD n m (bd a fs)) := by
  subst hn hm
  refine ⟨F.kp, fd, ps, rfl, b, fun A outer s H us vs Q p fs F0 Hb M xs QD hr hot pin e0 hl hb r O rx hx h hq => ?_⟩
  refine run_hot F S hr hot pin e0 hb r hl fun cdv hr2 => ?_
  obtain ⟨t, pt, lt⟩ := W cdv A outer s H E0 p (Lk.ex K p c fs) fs hr2 ⟨hot, List.mem_cons_self, fun _ _ z => z, C⟩
  refine ⟨t, pt, ?_⟩
  refine lt.run (D := { nx := fun _ H' => Q .non H', rt := Q }) hx O (srep_start rx) (lt.mono (D := { nx := fun _ M1 => QD .non M1, rt := QD }) ⟨fun ds M1 z => ?_, fun x M1 z => hq x M1 z, fun _ _ z => z.elim, fun _ _ z => z.elim⟩ h.2)
  intro σ Hb' H' s' O' S'
  exact hq _ _ z .non Hb' H' s' O' .non
end
section
variable {X : Cx} {G : Lk} {x c : Str} {pos p1 : Pos} {e : Expr} {es : List Expr} {t : DTA} {f : DSe} {k : Nat} {fa : Addr} {p : Addr × Obj} {fs : List (Str × Dt)}
def dCallE (f : DSe) (a : Addr) (fs : List (Str × Dt)) (t : DTA) : DTE := fun ds M Q => t ds M fun xs M1 => upQ (f a fs) xs M1 Q X0
def tCallE (X : Cx) (p : Addr × Obj) (c : Str) (f : DSe) (n : Nat) (fs : List (Str × Dt)) (ta : TA) : TE := fun σ H Q => ta σ H fun vs H1 => ∃ (F : Fo) (Hb : Hp) (M : Mm) (xs : List Dt) (QD : DQ), Own X.K F M Hb H1 ∧ RepL X.K Hb vs xs ∧ ExAt X.K Hb p c fs ∧ vs.length = n ∧ f p.1 fs xs M QD X0 ∧ ∀ x M', QD x M' → Cl X.K F Hb Q x M'
theorem de_callE {n : Nat} (h : HotK X G p c fs) (F : DFe X.prog X.w X.K X.mg X.base k fa n c f) (hr : L2H.RoomH k X.A) (hg : Gl X x) (hm : X.mg x = some (.ref fa)) (ha : DA X G (e :: es) t) (hlen : ∀ {a fs xs M Q X}, f a fs xs M Q X → xs.length = n)
    (hdb : (x == ("__debug__" : Str)) = false := by decide) (he : starEach (e :: es) X.env = (false, eval e X.env) :: starEach es X.env := by rfl) (hpl : (backTo pos (starEach es X.env)).any (·.1) = false := by rfl) :
    DE X G (.Call (.Name x p1) (e :: es) [] pos) (dCallE f p.1 fs t) := by
  obtain ⟨ta, pa, la⟩ := ha
  obtain ⟨fd, ps, el, bd, run⟩ := F.ex
  refine ⟨tCallE X p c f n fs ta, ⟨fun pins s σ H Q I hq => ?_⟩, ⟨fun hq h => la.mono (fun xs M1 h1 => upQ_mono hq h1) h, fun {F σ ds Hb H M Q} g O S h1 => ?_⟩⟩
  · refine wpAny_Call_Name_kw (ld_glob I hg hm ?_ hdb)
    refine PySem.W.callWith_K (h₀ := X.base) I.ok.mod.kin F.kp (thn (pa.run pos pins s σ H _ I hq) fun us s1 hs => ?_) he hpl
    obtain ⟨vs, H1, I1, r1, F0, Hb, M, xs, QD, O, rx, hx, hn, hf, hc⟩ := hs
    refine ⟨I1.kIn, ?_⟩
    have P1 := I1.pin p (List.mem_append_left _ h.mem)
    have pin : L2H.PinOk X.stack H1 s1 p := ⟨P1.1, P1.2.1, fun z => (List.mem_cons.mp (I1.stkSub p.1 z)).elim P1.2.2.1 P1.2.2.2.1, P1.2.2.2.2⟩
    have hu : us.length = ps.length := by rw [← r1.length, hn, el]
    have b := bd s1 us I1.kIn (by rw [List.append_nil]; exact hu)
    rw [List.append_nil] at b
    refine wpAny_call (codeAny_mono (run X.A X.stack s1 H1 us vs Q p fs F0 Hb M xs QD hr h.hot pin I1.env0 (by rw [hn, el]) b r1 O rx hx hf hc) fun r s' back => ?_)
    cases r with
    | error er => exact (passAt0 σ pins H1 s1 er s' I1 back : X.xe er s')
    | ok fl =>
      cases fl with
      | ret u => exact I1.after back
      | next => exact False.elim back
      | brk => exact False.elim back
      | cont => exact False.elim back
  · refine la.run g O S (la.mono (fun xs M1 h2 vs Hb1 H1 s1 O1 r1 => ?_) h1)
    obtain ⟨Q0, q1, q2⟩ := h2
    exact ⟨F, Hb1, M1, xs, Q0, O1, r1, h.at_ _ _ (G.up g s1), by rw [r1.length]; exact hlen q2, q2, fun x M' z => Cl.up s1 (q1 _ _ z)⟩
end
end DL
set_option Elab.async false
set_option linter.all false
set_option maxRecDepth 100000
/-! EA: a Hook over a chosen list of addresses: facts as one Bool, defs at any address, lambda tables. -/
namespace EL
open PySem PySem.Spec PyProof.Rows L2
abbrev Rd : Type := Addr → Option Obj
/-! ### which addresses are looked at -/
def addrs (vs : List Value) : List Addr := vs.filterMap fun v => match v with
  | .ref a => some a
  | _ => none
def kids (o : Obj) : List Value := match o.data with
  | .seq its _ => its.toList
  | .dict es _ => es.toList.map fun e => e.val
  | .func fd => [fd.code, fd.defaults, fd.kwdefaults]
  | .cls cd => [.ref cd.ns]
  | .fields vs => (match o.cls with
    | .type c => (match decide (c = "property") with
      | true => vs.toList
      | false => [])
    | _ => [])
  | _ => []
def deep (g : Rd) : Nat → List Addr → List Addr
  | 0, as => as
  | n + 1, as => as ++ deep g n (as.flatMap fun a => match g a with
    | some o => addrs (kids o)
    | none => [])
/-- the module's names, what they lead to in five steps: a def's code, a class's names, a property's getter and its code -/
def walkA (g : Rd) : List Addr := deep g 5 [mainGlobals]
def codeA (K : PySem.W.Frag) (f : Addr) : Addr := match K.lookup f with
  | some ⟨_, _, .func fd, _⟩ => (match fd.code with
    | .ref c => c
    | _ => 0)
  | _ => 0
/-- a def's code object, its table -/
def ctA (K : PySem.W.Frag) (f : Addr) : Addr × Addr := (codeA K f, He.tabOf K (codeA K f))
abbrev At : Type := PySem.W.Frag → Addr
def tabOk (g : Rd) (K : PySem.W.Frag) (p : Addr × Addr) : Bool := PySem.W.codeHdIn K p.1 p.2 && ((K.lookup p.2).isNone && (match g p.2 with
  | some o => He.emptyTab o
  | none => false))
structure Says (ex : PySem.W.Frag → Bool) (fn : List He5.DefA) (tf : List At) (h : Heap) (K : PySem.W.Frag) : Prop where
  more : ex K = true
  ok : ∀ d ∈ fn, d.ok K = true
  at_ : fn.map (fun d => He5.fnA K (d.at_ K)) = fn.map He5.DefA.val
  tabs : ∀ t ∈ tf, PySem.W.codeHdIn K (ctA K (t K)).1 (ctA K (t K)).2 = true ∧ K.lookup (ctA K (t K)).2 = none ∧ h.get? (ctA K (t K)).2 = some { cls := .none, data := .fields #[] }
abbrev Al : Type := Bool × List He.FnW
def obs (ex : PySem.W.Frag → Bool) (fn : List He5.DefA) (tf : List At) (g : Rd) (K : PySem.W.Frag) : Al :=
  ((ex K && fn.all fun d => d.ok K) && tf.all fun t => tabOk g K (ctA K (t K)), fn.map fun d => He5.fnA K (d.at_ K))
def val (fn : List He5.DefA) : Al := (true, fn.map He5.DefA.val)
theorem says_of {ex : PySem.W.Frag → Bool} {fn : List He5.DefA} {tf : List At} {h : Heap} {K : PySem.W.Frag} (e : obs ex fn tf h.get? K = val fn) : Says ex fn tf h K := by
  obtain ⟨e1, e2⟩ := Prod.mk.inj e
  obtain ⟨e3, e4⟩ := Bool.and_eq_true_iff.mp e1
  obtain ⟨e5, e6⟩ := Bool.and_eq_true_iff.mp e3
  refine ⟨e5, fun d hd => List.all_eq_true.mp e6 d hd, e2, fun t ht => ?_⟩
  obtain ⟨z1, z2⟩ := Bool.and_eq_true_iff.mp (List.all_eq_true.mp e4 t ht)
  obtain ⟨z3, z4⟩ := Bool.and_eq_true_iff.mp z2
  refine ⟨z1, Option.isNone_iff_eq_none.mp z3, ?_⟩
  cases q : h.get? (ctA K (t K)).2 with
  | none => rw [q] at z4; cases z4
  | some o => rw [q] at z4; rw [He.emptyTab_eq z4]
def hook (ex : PySem.W.Frag → Bool) (fn : List He5.DefA) (tf : List At) : PySem.W.Hook where
  α := Al
  obs := fun s => obs ex fn tf s.heap.get? (He.frG s.heap.get? (walkA s.heap.get?))
  val := fun _ => val fn
  says := fun _ h => ∃ K : PySem.W.Frag, K.In h ∧ Says ex fn tf h K
  of := fun _ _ e => ⟨_, He.frG_in, says_of e⟩
  keeps := fun _ _ _ ⟨K, hK, c⟩ k => ⟨K, PySem.W.Frag.In.keeps hK k, ⟨c.more, c.ok, c.at_, fun t ht => ⟨(c.tabs t ht).1, (c.tabs t ht).2.1, k _ _ (c.tabs t ht).2.2⟩⟩⟩
def obsT (ex : PySem.W.Frag → Bool) (fn : List He5.DefA) (tf : List At) (s : PySem.W.SharedT) : Al :=
  obs ex fn tf (HandSHeadRun.getT s) (He.frG (HandSHeadRun.getT s) (walkA (HandSHeadRun.getT s)))
theorem obsT_eq {ex : PySem.W.Frag → Bool} {fn : List He5.DefA} {tf : List At} (s : PySem.W.SharedT) : obsT ex fn tf s = (hook ex fn tf).obs s.abs := by
  have e : HandSHeadRun.getT s = s.abs.heap.get? := funext (HandSHeadRun.getT_eq s)
  unfold obsT
  rw [e] <;> rfl
section
variable {ex : PySem.W.Frag → Bool} {fn : List He5.DefA} {tf : List At} {h : Heap} {K : PySem.W.Frag}
theorem Says.def_ (c : Says ex fn tf h K) (i : Nat) {d : He5.DefA} (hi : fn[i]? = some d := by rfl) : ∃ fd, FunD K d.name d.qual d.params d.body d.scope (d.dvs K) (d.kws K) (d.at_ K) fd := by
  have e2 : (fn.map fun d => He5.fnA K (d.at_ K))[i]? = (fn.map He5.DefA.val)[i]? := by rw [c.at_]
  rw [List.getElem?_map, List.getElem?_map, hi] at e2
  exact He5.DefA.funD (Option.some.inj e2) (c.ok d (List.mem_of_getElem? hi))
end
/-! ### more facts -/
def propB (K : PySem.W.Frag) (c f : Str) : Bool := decide (PySem.W.findIn K (.ref (He.ga K c)) f = some (some (.ref (He.ma K (He.ga K c) f)))) && (decide (PySem.W.specialIn K (.ref (He.ma K (He.ga K c) f)) "__get__" = some (some (.builtin "property.__get__"))) &&
  (decide (PySem.W.takesIn K (.ref (He.ma K (He.ga K c) f)) = some true) && (match PySem.W.recIn K (He.ma K (He.ga K c) f) "property" with
    | some (.ref _ :: _) => true
    | _ => false)))
theorem propB_ok {K : PySem.W.Frag} {c f : Str} (h : propB K c f = true) : PropOf K (He.ga K c) f (He.ma K (He.ga K c) f) (He5.wf K (He.ga K c) "property" f) := by
  obtain ⟨h1, h⟩ := Bool.and_eq_true_iff.mp h
  obtain ⟨h2, h⟩ := Bool.and_eq_true_iff.mp h
  obtain ⟨h3, h4⟩ := Bool.and_eq_true_iff.mp h
  refine ⟨of_decide_eq_true h1, of_decide_eq_true h2, of_decide_eq_true h3, ?_⟩
  unfold He5.wf
  split at h4
  · rename_i g r e
    exact ⟨r, by rw [e]⟩
  · cases h4
def callB (K : PySem.W.Frag) (c : Str) : Bool := decide (PySem.W.findIn K (.ref (He.ga K c)) "__call__" = some (some (.ref (He.ma K (He.ga K c) "__call__")))) && (PySem.W.isFn K (.ref (He.ma K (He.ga K c) "__call__")) && PySem.W.fnIn K (He.ma K (He.ga K c) "__call__"))
theorem callB_ok {K : PySem.W.Frag} {c : Str} (h : callB K c = true) : StX.CallO K (He.ga K c) (He.ma K (He.ga K c) "__call__") := by
  obtain ⟨h1, h⟩ := Bool.and_eq_true_iff.mp h
  obtain ⟨h2, h3⟩ := Bool.and_eq_true_iff.mp h
  exact ⟨of_decide_eq_true h1, h2, h3⟩
def oiB (K : PySem.W.Frag) (c : Str) : Bool := decide (PySem.W.findIn K (.ref (He.ga K c)) "__init__" = some (some (.ref (He.ma K (He.ga K c) "__init__")))) && decide (PySem.W.typeIn K (.ref (He.ma K (He.ga K c) "__init__")) = some (.type "function"))
theorem oiB_ok {K : PySem.W.Frag} {c : Str} (h : oiB K c = true) : PySem.W.findIn K (.ref (He.ga K c)) "__init__" = some (some (.ref (He.ma K (He.ga K c) "__init__"))) ∧ PySem.W.typeIn K (.ref (He.ma K (He.ga K c) "__init__")) = some (.type "function") := by
  obtain ⟨h1, h2⟩ := Bool.and_eq_true_iff.mp h
  exact ⟨of_decide_eq_true h1, of_decide_eq_true h2⟩
def oexB (K : PySem.W.Frag) (c : Str) : Bool := (match K.lookup (He.ga K c) with
  | some ⟨.type "type", _, .cls cd, sl⟩ => (match cd.mro, sl.toList with
    | .ref C' :: bm, [_, _, _, _, some (.builtin n), _] => C' == He.ga K c && n == "ValueError.__new__" && !cd.hasDel && PySem.HandSPX.refsVE bm && cd.hasDict
    | _, _ => false)
  | _ => false) && (decide (PySem.W.findIn K (.ref (He.ga K c)) "__setattr__" = some (some (.builtin "object.__setattr__"))) && (decide (PySem.W.subIn K (.ref (He.ga K c)) (.type "BaseException") = some true) &&
    (decide (PySem.W.typeIn K (.ref (He.ga K c)) = some (.type "type")) && PySem.W.keepIn K (.ref (He.ga K c)))))
theorem oexB_ok {K : PySem.W.Frag} {c : Str} (h : oexB K c = true) : OexC K (He.ga K c) := by
  obtain ⟨h1, h⟩ := Bool.and_eq_true_iff.mp h
  obtain ⟨h2, h⟩ := Bool.and_eq_true_iff.mp h
  obtain ⟨h3, h⟩ := Bool.and_eq_true_iff.mp h
  obtain ⟨h4, h5⟩ := Bool.and_eq_true_iff.mp h
  refine ⟨?_, of_decide_eq_true h2, of_decide_eq_true h3, of_decide_eq_true h4, h5⟩
  split at h1
  · rename_i dd cd sl ho
    split at h1
    · rename_i C' bm k0 k1 k2 k3 n k5 hm hs
      simp only [Bool.and_eq_true, beq_iff_eq, Bool.not_eq_true'] at h1
      obtain ⟨⟨⟨⟨rfl, rfl⟩, hdel⟩, ht⟩, hdict⟩ := h1
      obtain ⟨nm, bs, mro, ns, qn, hd, sn, sub, ab, col, del⟩ := cd
      dsimp only at hm hdel hdict
      subst hm hdel hdict
      have hsl : sl = #[k0, k1, k2, k3, some (.builtin "ValueError.__new__"), k5] := by
        apply Array.toList_inj.mp
        exact hs
      subst hsl
      exact ⟨nm, qn, ns, bs, bm, sn, sub, ab, col, dd, k0, k1, k2, k3, k5, ho, ht⟩
    · cases h1
  · cases h1
/-! ### the parts of the text -/
def clsBody (s : Stmt) : List Stmt := match s with
  | .ClassDef _ _ _ b .. => b
  | _ => []
def mth (s : Stmt) (i : Nat) : Stmt := (clsBody s).getD i (.Pass ⟨0, 0, 0, 0⟩)
def suiteOf (b : List Stmt) : List Stmt := match b with
  | .Try _ [.ExceptHandler _ _ ss _] _ _ _ :: _ => ss
  | _ => []
abbrev df (at_ : At) (name qual : Str) (st : Stmt) (dfl : List He.Dv := []) (kwd : List (Str × He.Dv) := []) : He5.DefA := ⟨at_, name, qual, defArgs st, defBody st, defScope st, dfl, kwd⟩
end EL
set_option Elab.async false
set_option linter.all false
set_option maxRecDepth 100000
set_option maxHeartbeats 4000000
/-! D layer, part S: a def that is handed a lambda, calls it in a try, and tells of the exception. -/
namespace DL
open PySem PySem.Spec PyProof.Rows L2 LamX

/-! ### the lambda's body runs -/
abbrev lamN (X : Cx) (A : Around) (outer : List Env) (s : Shared) (H : Hp) (E : XK) (scope : Scope) (f c' : Addr) : Cx :=
  (lamCx X A outer s H E scope f c').tr [] (fun e s' => wpAny (model X.prog X.w) (A.deeper (lamEnv X scope s.heap.objs.size f c')) (leaving (lamEnv X scope s.heap.objs.size f c') e) (fun _ s'' => L2N.CX X.prog X.w outer H s E e s'') (fun e' s'' => L2N.CX X.prog X.w outer H s E e' s'') s')
section
variable {X : Cx} {pins : List (Addr × Obj)} {σ : L2.St} {H : Hp} {s : Shared}
/-- a(), a the name that holds the lambda, in the def that got it -/
theorem pe_deed {Z : Cx} {f c' : Addr} {pm ctv : Value} {params : Arguments} {body : Expr} {scope : Scope} {k i : Nat} {a : Str} {pn : List (Addr × Obj)} {xe : Value → Shared → Prop} {W : WX} {E : XK} {tb : TE} {p1 p2 : Pos}
    (I : Inv X pins σ H s) (L : LamS X.env.scope scope) (hf : s.heap.get? f = some (PySem.W.kla_obj "<lambda>" (X.env.qual ++ "<lambda>") params body scope (cloFrom X.env.cells scope.names []) pm c' ctv)) (hfn : H f = none) (hfr : f ∉ frs X.stack)
    (hbind : bindArgs (PySem.W.kla_fn "<lambda>" (X.env.qual ++ "<lambda>") params body scope (cloFrom X.env.cells scope.names []) pm (.ref c') ctv) ⟨[], []⟩ = pure [])
    (z1 : Z.prog = X.prog) (z2 : Z.w = X.w) (z3 : Z.K = X.K) (z4 : Z.mg = X.mg) (z5 : Z.base = X.base) (z6 : Z.outer = X.stack) (z7 : Z.ex = []) (z8 : Z.H_0 = H) (z9 : Z.s_0 = s)
    (tk : L2N.Takes (Z.tr pn xe) W) (hr : Room (k + 1) Z.A)
    (hbody : ∀ (A : Around) (outer : List Env) (s : Shared) (H : Hp), Room k (A.deeper (lamEnv X scope s.heap.objs.size f c')) → PE (lamN X A outer s H E scope f c') body tb)
    (hN : Z.N[i]? = some a) (hv : Vis Z.env.scope a) (hd : (a == ("__debug__" : Str)) = false := by decide) (hcd : (a == ("__classdict__" : Str)) = false := by decide) :
    PE (Z.tr pn xe) (.Call (.Name a p1) [] [] p2) (fun σZ HZ Q => σZ[i]? = some (some (.ref f)) ∧ HZ c' = some (CodeO c' (X.env.qual ++ "<lambda>")) ∧ (∀ cls d G, E cls d G → W cls d σZ G) ∧ tb σ HZ Q) := by
  refine ⟨fun pinsZ sZ σZ HZ Q IZ h => ?_⟩
  obtain ⟨hs, hc, hW, ht⟩ := h
  refine wpAny_Call_Name_kw (thn ((pe_var (X := Z.tr pn xe) (pos := p1) (i := i) hN hv hd hcd).run pinsZ sZ σZ HZ (fun v G => v = .ref f ∧ G = HZ) IZ ⟨.ref f, hs, rfl, rfl⟩) fun u s1 hu => ?_)
  obtain ⟨v, G, I1, r1, rfl, rfl⟩ := hu
  obtain rfl : u = Value.ref f := r1
  have un : Un (frs X.stack) [] H G s.heap s1.heap := by
    have b := I1.base
    have b2 : Un (frs Z.outer) Z.ex Z.H_0 G Z.s_0.heap s1.heap := b
    rw [z6, z7, z8, z9] at b2
    exact b2
  have of1 := un.keep f _ hf hfn hfr (fun z => nomatch (show f ∈ ([] : List Addr) from z))
  refine PySem.W.callWith_F0 ⟨_, _, _, _, of1⟩ ?_
  obtain ⟨⟨oc, vs, t, hoc, hdc, hvc⟩, _, _⟩ := I1.hok c' _ hc
  have env0 : Env0 X.prog X.w X.K X.mg X.base Z.A Z.stack s1 G := by
    have e := I1.env0
    have e2 : Env0 Z.prog Z.w Z.K Z.mg Z.base Z.A Z.stack s1 G := e
    rw [z1, z2, z3, z4, z5] at e2
    exact e2
  have rc : codeAny (model X.prog X.w) Z.A (.call (.ref f) ⟨[], []⟩) (CR (L2N.CX X.prog X.w) Z.stack X.prog X.w G s1 Q E) s1 := by
    refine PySem.W.kla_callFunE hr.depth of1 rfl L.co L.gen rfl ⟨c', oc, vs, t, rfl, hoc, hdc, hvc⟩ ?_
    rw [hbind]
    refine wpAny_pure (wpAny_newFunctionEnv (fun y hy => (L.own y hy).2) (fun y hy => absurd hy (by simp)) (fun h₁ hns hsb => ⟨I1.nolimit.fresh _ hsb, ?_⟩) L.kind)
    show codeAny _ _ (.expr body (lamEnv X scope s1.heap.objs.size f c')) _ _
    have kp : ∀ b o, s1.heap.get? b = some o → h₁.get? b = some o := fun b o e => hsb.extBut b o (Nat.ne_of_lt (Heap.lt_size e)) (Heap.get?_push_of_some _ e)
    have J := lam_start2 (E := E) (f := f) (c' := c') (tk := s1.toks + ([] : List (Str × Value)).length) I L env0 hr.hd un hns kp
    have J2 : Inv (lamN X Z.A Z.stack s1 G E scope f c') [] σ G { s1 with heap := h₁, toks := s1.toks + ([] : List (Str × Value)).length } := J.toTry _
    refine PySem.W.kla_codeExpr (wpAny_mono ((hbody Z.A Z.stack s1 G (hr.deeper _)).run [] _ _ G Q J2 ht) (fun v s' hq => ?_) fun e s' hq => hq)
    obtain ⟨w', H', J', rv, q⟩ := hq
    exact ⟨w', H', J'.os, J'.bare, J'.base, J'.hok, rv, q⟩
  have rc2 : codeAny (model Z.prog Z.w) Z.A (.call (.ref f) ⟨[], []⟩) (CR (L2N.CX Z.prog Z.w) Z.stack Z.prog Z.w G s1 Q E) s1 := by rw [z1, z2]; exact rc
  refine wpAny_call (codeAny_mono rc2 fun r s' hq => ?_)
  cases r with
  | error e => exact tk e s' (L2N.XE.of_call I1 (fun cls d G' h => hW cls d G' h) hq)
  | ok fl =>
    cases fl with
    | ret u => exact I1.after hq
    | next => exact False.elim hq
    | brk => exact False.elim hq
    | cont => exact False.elim hq
end
/-! ### the def: try: a() / except X as e: suite / return False -/
/-- where the suite stands -/
def tSuite (K : PySem.W.Frag) (Cs : List Str) (bs : Addr → Str → List (Str × Dt) → DTS) (a : Addr) (cls : Value) (d : Option Addr) : TS := fun D σ H => ∃ (c : Str) (fs : List (Str × Dt)) (F : Fo) (Hb : Hp) (M : Mm) (ds : DSt), c ∈ Cs ∧ ExcRep K Hb cls d c fs ∧ Own K F M Hb H ∧ SRep K Hb σ ds ∧ ∃ D0 : DEnds, D0.le (ClE K F Hb D) ∧ bs a c fs D0 ds M
theorem ps_suite {Z : Cx} {Cs : List Str} {bs : Addr → Str → List (Str × Dt) → DTS} {ss : List Stmt} {k : Nat} (hr : Room k Z.A) (hX : ∀ c ∈ Cs, XcF Z.K c)
    (wk : ∀ (a : Addr) (oe : Obj) (pn : List (Addr × Obj)) (c : Str) (fs : List (Str × Dt)) (G : Lk), c ∈ Cs → L2H.RoomH k (Z.suite a ((a, oe) :: pn)).A → HotK (Z.suite a ((a, oe) :: pn)) G (a, oe) c fs → DSs (Z.suite a ((a, oe) :: pn)) G ss (bs a c fs))
    (a : Addr) (oe : Obj) (cls : Value) (d : Option Addr) (pn : List (Addr × Obj)) (hz : L2N.Zn cls d oe) (hf : ∃ vs, oe.data = .fields vs) : PSs (Z.suite a ((a, oe) :: pn)) ss (tSuite Z.K Cs bs a cls d) := by
  refine ⟨fun pins s σ H D I h => ?_⟩
  obtain ⟨c, fs, F, Hb, M, ds, hc, hx, O, S, D0, hle, hb⟩ := h
  obtain ⟨rfl, hd⟩ := hx
  obtain ⟨vs, hv⟩ := hf
  have ea : ExAt Z.K Hb (a, oe) c fs := ⟨d, hz, ⟨vs, hv⟩, hd⟩
  obtain ⟨t, pt, lt⟩ := wk a oe pn c fs (Lk.ex Z.K (a, oe) c fs) hc (L2H.roomH_mark hr _) ⟨⟨rfl, vs, hv, hz.2.2 vs hv⟩, List.mem_cons_self, fun _ _ z => z, hX c hc⟩
  exact pt.run pins s σ H D I (lt.run ea O S (lt.mono hle hb))
/-- a reading of a data reading, the wish free to be stronger -/
def teQ (K : PySem.W.Frag) (G : Lk) (d : DTE) : TE := fun σ H Q => ∃ F Hb M ds Q1, G.g F Hb ∧ Own K F M Hb H ∧ SRep K Hb σ ds ∧ (∀ x M', Q1 x M' → Cl K F Hb Q x M') ∧ d ds M Q1
theorem pe_canQ {X : Cx} {G : Lk} {e : Expr} {d : DTE} (h : DE X G e d) : PE X e (teQ X.K G d) := by
  obtain ⟨te, pe, le⟩ := h
  refine ⟨fun pins s σ H Q I hq => ?_⟩
  obtain ⟨F, Hb, M, ds, Q1, g, O, S, h1, h2⟩ := hq
  exact pe.run pins s σ H Q I (le.run g O S (le.mono h1 h2))
def dDen (Cs : List Str) (bs : Addr → Str → List (Str × Dt) → DTS) (tb : DX → DTE) (td : DTE) : DTE := fun ds M Q => ∃ Q0 : DQ, (∀ x M', Q0 x M' → Q x M') ∧ td ds M fun d M1 => ∀ fa : Addr,
  tb (fun c fs M2 => c ∈ Cs ∧ ∀ a, M2 a = none → bs a c fs { nx := fun _ _ => False, rt := Q0 } [some (.cel fa), some d, some (.cel a)] M2) ds M1 (fun _ M2 => Q0 (.bl false) M2)
/-- what stays when a lambda is made -/
theorem Own.lam {K : PySem.W.Frag} {F : Fo} {M : Mm} {Hb H H1 : Hp} {c' : Addr} {q : Str} (O : Own K F M Hb H) (e : ExtN H H1) (t : Tabs F.tb H1) (hc : H1 c' = some (CodeO c' q)) :
    ∃ Hb1, Same Hb Hb1 ∧ Own K F M Hb1 H1 ∧ Hb1 c' = some (CodeO c' q) := by
  have up : ∀ b u, Hb b = some u → H1 b = some u := fun b u h => e b u (O.same b u h) fun ps z => O.tb.2.1 b ps (by rw [h, z])
  have upF : ∀ b u, F.hp b = some u → H1 b = some u := fun b u h => e b u (O.fr b u h) (O.tb.2.2 b u h).1
  have s0 : Same Hb (upd Hb c' (CodeO c' q)) := fun b u h => by
    by_cases hb : b = c'
    · subst hb; rw [upd_same, ← hc]; exact up b u h
    · rw [upd_ne hb]; exact h
  refine ⟨upd Hb c' (CodeO c' q), s0, ⟨fun b u h => ?_, upF, fun a d h => ?_, fun a u h => ?_, ⟨t, fun b ps h => ?_, O.tb.2.2⟩⟩, upd_same⟩
  · by_cases hb : b = c'
    · subst hb; rw [upd_same] at h; rw [hc]; exact h
    · rw [upd_ne hb] at h; exact up b u h
  · obtain ⟨h1, h2, h3⟩ := O.mt a d h
    obtain ⟨u, n1, n2, n3⟩ := h1.nt
    have e1 : H1 a = some u := e a u n1 n2
    have ne : a ≠ c' := fun z => by rw [z, hc] at e1; exact n3 _ (Option.some.inj e1).symm
    exact ⟨h1.up (fun o z => by rw [n1] at z; cases z; exact e1) s0, by rw [upd_ne ne]; exact h2, h3⟩
  · have ne : a ≠ c' := fun z => by
      have e1 := upF a u h
      rw [z, hc] at e1
      exact (O.tb.2.2 a u h).2 _ (Option.some.inj e1).symm
    rw [upd_ne ne]; exact O.dj a u h
  · by_cases hb : b = c'
    · subst hb; rw [upd_same] at h; exact codeO_ne ps (Option.some.inj h)
    · rw [upd_ne hb] at h; exact O.tb.2.1 b ps h
/-- x(lambda: body, due) -/
theorem de_denied {X : Cx} {G : Lk} {Cs : List Str} {bs : Addr → Str → List (Str × Dt) → DTS} {tb : DX → DTE} {td : DTE} {x NB a en : Str} {g c P : Addr} {k kb : Nat} {pg : Arguments} {sg : Scope} {Ng ps : List Str} {fdg : FuncData} {params : Arguments} {body dueE : Expr} {scope : Scope}
    {b0 : Stmt} {suite : List Stmt} {p lpos pos p1 p2 p3 p4 p5 p6 p7 p8 : Pos} {j : Nat} (hg : Gl X x) (hm : X.mg x = some (.ref g)) (hk : PySem.W.keepIn X.K (.ref g) = true)
    {bodyg : List Stmt} (F : FunD X.K x x pg bodyg sg [] [] g fdg) (hbg : bodyg = [.Try [.Expr (.Call (.Name a p1) [] [] p2) p3] [.ExceptHandler (some (.Name NB p4)) (some en) (b0 :: suite) p5] [] [] p6, .Return (some (.Constant (.bool false) j p7)) p8]) (hb : Binds X.K fdg ps []) (Sg : FnScope Ng ps sg)
    (hps : ps.length = 2) (hNl : Ng.length = 3) (hN0 : Ng[0]? = some a) (hN2 : Ng[2]? = some en) (hva : Vis sg a) (hen : sg.names.lookup en = some .local) (hNB : sg.names.lookup NB = some .globalImplicit) (hmNB : X.mg NB = some (.ref (He.ga X.K NB)))
    (hexm : ∀ c ∈ Cs, PySem.W.exmOne X.K (.ref (He.ga X.K c)) (.ref (He.ga X.K NB)) = some true) (hX : ∀ c ∈ Cs, XcF X.K c)
    (wk : ∀ (cdv : Value) (A : Around) (outer : List Env) (s : Shared) (H : Hp) (E : XK) (a : Addr) (oe : Obj) (pn : List (Addr × Obj)) (c : Str) (fs : List (Str × Dt)) (G : Lk), c ∈ Cs → L2H.RoomH k ((cxOf (L2N.CX X.prog X.w) X.prog X.w X.K X.mg X.base Ng x sg g cdv A outer s H E).suite a ((a, oe) :: pn)).A →
      HotK ((cxOf (L2N.CX X.prog X.w) X.prog X.w X.K X.mg X.base Ng x sg g cdv A outer s H E).suite a ((a, oe) :: pn)) G (a, oe) c fs → DSs ((cxOf (L2N.CX X.prog X.w) X.prog X.w X.K X.mg X.base Ng x sg g cdv A outer s H E).suite a ((a, oe) :: pn)) G (EL.suiteOf bodyg) (bs a c fs))
    (TB : TabB X.base X.mg c P) (hcode : X.env.code = .ref c) {T : List (Addr × Str)} (hT : ∀ F Hb, G.g F Hb → F.tb = T) (huT : (P, X.env.qual ++ "<lambda>") ∈ T ∧ ∀ q ∈ T, q.1 = P → q.2 = X.env.qual ++ "<lambda>") (hr : Room (k + 1) X.A) (hkb : kb + 1 ≤ k) (L : LamS X.env.scope scope) (hdef : defaultsOf params X.env = ([], []))
    (hbind : ∀ (q : Str) (cl : List (Str × Addr)) (pm cv ctv : Value), bindArgs (PySem.W.kla_fn "<lambda>" q params body scope cl pm cv ctv) ⟨[], []⟩ = pure []) (hdue : DE X G dueE td)
    (hbody : ∀ (A : Around) (outer : List Env) (s : Shared) (H : Hp) (E : XK) (f c' : Addr) (G' : Lk) (XX : DX), Room kb (A.deeper (lamEnv X scope s.heap.objs.size f c')) → Rsw (lamN X A outer s H E scope f c') G' XX → DE (lamN X A outer s H E scope f c') G' body (tb XX))
    (hdb : (x == ("__debug__" : Str)) = false := by decide) (hda : (a == ("__debug__" : Str)) = false := by decide) (hca : (a == ("__classdict__" : Str)) = false := by decide) (hdN : (NB == ("__debug__" : Str)) = false := by decide)
    (he : starEach [.Lambda params body scope lpos, dueE] X.env = (false, eval (.Lambda params body scope lpos) X.env) :: starEach [dueE] X.env := by rfl) (he2 : starEach [dueE] X.env = (false, eval dueE X.env) :: starEach [] X.env := by rfl) (hpl : (backTo pos (starEach [dueE] X.env)).any (·.1) = false := by rfl) :
    DE X G (.Call (.Name x p) [.Lambda params body scope lpos, dueE] [] pos) (dDen Cs bs tb td) := by
  subst hbg
  have wk : ∀ (cdv : Value) (A : Around) (outer : List Env) (s : Shared) (H : Hp) (E : XK) (a : Addr) (oe : Obj) (pn : List (Addr × Obj)) (c : Str) (fs : List (Str × Dt)) (G : Lk), c ∈ Cs → L2H.RoomH k ((cxOf (L2N.CX X.prog X.w) X.prog X.w X.K X.mg X.base Ng x sg g cdv A outer s H E).suite a ((a, oe) :: pn)).A →
      HotK ((cxOf (L2N.CX X.prog X.w) X.prog X.w X.K X.mg X.base Ng x sg g cdv A outer s H E).suite a ((a, oe) :: pn)) G (a, oe) c fs → DSs ((cxOf (L2N.CX X.prog X.w) X.prog X.w X.K X.mg X.base Ng x sg g cdv A outer s H E).suite a ((a, oe) :: pn)) G (b0 :: suite) (bs a c fs) := wk
  refine ⟨teD X.K G (dDen Cs bs tb td), ⟨fun pins s σ H Q I h => ?_⟩, ⟨fun {ds M Q Q'} hq h => ?_, fun {F σ ds Hb H M Q} gg O S h => ⟨F, Hb, M, ds, gg, O, S, h⟩⟩⟩
  rotate_left
  · obtain ⟨Q0, q1, q2⟩ := h
    exact ⟨Q0, fun x M' z => hq _ _ (q1 _ _ z), q2⟩
  obtain ⟨F0, Hb, M, ds, gg, O, S, Q0, hq0, hd⟩ := h
  refine wpAny_Call_Name_kw (ld_glob I hg hm ?_ hdb)
  refine PySem.W.callWith_K (h₀ := X.base) I.ok.mod.kin hk ?_ he hpl
  rw [he]
  show wpAny _ _ (spliced ((false, eval (.Lambda params body scope lpos) X.env) :: backTo pos (starEach [dueE] X.env))) _ _ s
  have eT := hT _ _ gg
  obtain ⟨hmT, hu⟩ : (P, X.env.qual ++ "<lambda>") ∈ F0.tb ∧ ∀ q ∈ F0.tb, q.1 = P → q.2 = X.env.qual ++ "<lambda>" := by rw [eT]; exact huT
  refine Calls.spliced_cons (lam_make2 I TB hcode hmT hu O.tb.1 hdef (L.has I.ok) fun f c' pm' ctv H1 s1 I1 eN T1 hf hfn hfr hco => ?_)
  obtain ⟨Hb1, s01, O1, hcb⟩ := O.lam eN T1 hco
  -- the function object is pinned while the due value is told
  have nf1 : f ≠ X.env.locals := fun z => by
    obtain ⟨m, ⟨o, es, n, e1, e2, _⟩, _⟩ := I1.loc
    rw [← z, hf] at e1
    have e3 := Option.some.inj e1
    subst e3
    cases e2
  have nf2 : f ∉ X.fs := fun z => hfr (by
    rcases I1.ok.stk with e | ⟨e, _⟩
    · rw [e]; exact z
    · rw [e]
      show f ∈ (X.env :: X.outer).filterMap (·.frame)
      obtain ⟨y, hy, e2⟩ := List.mem_filterMap.mp z
      exact List.mem_filterMap.mpr ⟨y, List.mem_cons_of_mem _ hy, e2⟩)
  have I1' : Inv X (pins ++ [(f, PySem.W.kla_obj "<lambda>" (X.env.qual ++ "<lambda>") params body scope (cloFrom X.env.cells scope.names []) pm' c' ctv)]) σ H1 s1 := I1.pins_of fun z hz => by
    rcases List.mem_append.mp hz with y | y
    · exact I1.pin z (List.mem_append_right _ y)
    · rw [List.mem_singleton.mp y]
      exact ⟨hf, hfn, nf1, nf2, fun v q => by cases q⟩
  obtain ⟨ta, pa, la⟩ := hdue
  have pas := pa_cons pa (pa_nil (X := X)) he2
  refine thn (pas.run pos _ s1 σ H1 (fun vs H2 => ∃ (v : V) (d : Dt) (M2 : Mm) (Hb2 : Hp), vs = [v] ∧ Same Hb1 Hb2 ∧ Own X.K F0 M2 Hb2 H2 ∧ Rep X.K Hb2 v d ∧ ∀ fa : Addr, tb (fun c fs M2 => c ∈ Cs ∧ ∀ a, M2 a = none → bs a c fs { nx := fun _ _ => False, rt := Q0 } [some (.cel fa), some d, some (.cel a)] M2) ds M2 (fun _ M2 => Q0 (.bl false) M2)) I1' ?_) fun us s2 hus => ?_
  · refine la.run (G.up gg s01) O1 (S.up s01) (la.mono (fun d M2 h2 v Hb2 H2 s12 O2 r2 => ?_) hd)
    exact ⟨v, d, M2, Hb2, rfl, s12, O2, r2, h2⟩
  obtain ⟨vs, H2, I2, r2, v, d, M2, Hb2, rfl, s12, O2, rv, htb⟩ := hus
  refine ⟨I2.kIn, ?_⟩
  cases r2 with
  | cons ru rn =>
  rename_i u us'
  cases rn
  show wpAny _ _ (call (.ref g) [.ref f, u]) _ _ _
  have pf := I2.pin (f, _) (List.mem_append_right _ (List.mem_append_right _ List.mem_cons_self))
  have hf2 : s2.heap.get? f = some (PySem.W.kla_obj "<lambda>" (X.env.qual ++ "<lambda>") params body scope (cloFrom X.env.cells scope.names []) pm' c' ctv) := pf.1
  have hc2 : H2 c' = some (CodeO c' (X.env.qual ++ "<lambda>")) := O2.same _ _ (s12 _ _ hcb)
  obtain ⟨oc, od, dV, kV, doc, pm, an, cdv, ct, osl, efd, lk, hcd, hD, _⟩ := F.ex
  subst efd
  have hb2 := hb s2 [.ref f, u] I2.kIn (by rw [hps]; rfl)
  -- what is raised, what is wanted
  obtain ⟨XXf, hXX⟩ : ∃ XXf : DX, XXf = fun c fs M2 => c ∈ Cs ∧ ∀ a, M2 a = none → bs a c fs { nx := fun _ _ => False, rt := Q0 } [some (.cel f), some d, some (.cel a)] M2 := ⟨_, rfl⟩
  have htb := htb f
  rw [← hXX] at htb
  obtain ⟨E1, hE1⟩ : ∃ E1 : XK, E1 = fun cls dd G => ∃ c fs M3 Hb3, XXf c fs M3 ∧ Same Hb2 Hb3 ∧ Own X.K F0 M3 Hb3 G ∧ ExcRep X.K Hb3 cls dd c fs := ⟨_, rfl⟩
  have hlam : ∀ (A : Around) (outer : List Env) (s : Shared) (H : Hp), Room kb (A.deeper (lamEnv X scope s.heap.objs.size f c')) → PE (lamN X A outer s H E1 scope f c') body (teQ X.K (Lk.at F0 Hb2) (tb XXf)) := fun A outer s H hr2 =>
    pe_canQ (hbody A outer s H E1 f c' (Lk.at F0 Hb2) XXf hr2 ⟨E1, L2N.takes_of rfl rfl rfl rfl, fun F' Hb' gz c fs M z cls dd Hb'' H' s' O' r' => by
      obtain ⟨rfl, g2⟩ := gz
      rw [hE1]
      exact ⟨c, fs, M, Hb'', z, g2.trans s', O', r'⟩⟩)
  have est : L2.start Ng [.ref f, v] = [some (.ref f), some v, none] := by unfold L2.start; rw [hNl]; rfl
  have rc : codeAny (model X.prog X.w) X.A (.call (.ref g) ⟨[.ref f, u], []⟩) (CR (L2N.CX X.prog X.w) X.stack X.prog X.w H2 s2 Q E0) s2 := by
    refine run_ofS (N := Ng) (ps := ps) (us := [.ref f, u]) (vs := [.ref f, v]) lk hcd Sg hr I2.env0 hb2 (.cons rfl (.cons ru .nil)) (by rw [hps]; rfl) fun hr' => ?_
    refine ⟨_, pss_cons (L2N.ps_try_as (X := cxOf (L2N.CX X.prog X.w) X.prog X.w X.K X.mg X.base Ng x sg g cdv X.A X.stack s2 H2 E0) (i := 2) (c := .ref (He.ga X.K NB))
      (tb := fun W D τ G => τ[0]? = some (some (.ref f)) ∧ G c' = some (CodeO c' (X.env.qual ++ "<lambda>")) ∧ (∀ cls d G', E1 cls d G' → W cls d τ G') ∧ teQ X.K (Lk.at F0 Hb2) (tb XXf) σ G (fun _ G' => D.nx τ G'))
      (ts := tSuite X.K Cs bs) rfl rfl Sg.nd hN2 hen ⟨hNB, hdN, .inl hmNB⟩ (L2N.takes_of rfl rfl rfl rfl) (fun W pn xe tk hp => ?_) (fun a oe cls d pn hz hf => ps_suite (Z := cxOf (L2N.CX X.prog X.w) X.prog X.w X.K X.mg X.base Ng x sg g cdv X.A X.stack s2 H2 E0) hr' hX (wk cdv X.A X.stack s2 H2 E0) a oe cls d pn hz hf)) (pss_one (ps_ret pe_bl)), ?_⟩
    · exact pss_one (ps_expr (pe_deed (Z := cxOf (L2N.CX X.prog X.w) X.prog X.w X.K X.mg X.base Ng x sg g cdv X.A X.stack s2 H2 E0) (i := 0) I2 L hf2 pf.2.1 hfr (hbind _ _ _ _ _) rfl rfl rfl rfl rfl rfl rfl rfl rfl tk (hr'.mono hkb) (fun A outer s H hr2 => hlam A outer s H hr2) hN0 hva hda hca) rfl)
    · rw [est]
      refine ⟨rfl, hc2, fun cls dd G3 hE => ?_, F0, Hb2, M2, ds, _, ⟨rfl, Same.refl _⟩, O2, (S.up s01).up s12, ?_, htb⟩
      · rw [hE1, hXX] at hE
        obtain ⟨c, fs, M3, Hb3, ⟨hc, hbs⟩, s23, O3, hx⟩ := hE
        refine ⟨true, hx.1 ▸ hexm c hc, fun _ a ha => ⟨c, fs, F0, Hb3, M3, [some (.cel f), some d, some (.cel a)], hc, hx, O3, ⟨rfl, fun m y e => ?_⟩, { nx := fun _ _ => False, rt := Q0 }, ⟨fun _ _ z => z.elim, fun y M' z => ?_, fun _ _ z => z.elim, fun _ _ z => z.elim⟩, hbs a (O3.free ha).2.2⟩, fun z => by cases z⟩
        · match m, e with
          | 0, e => cases e; exact ⟨_, rfl, .cel⟩
          | 1, e => cases e; exact ⟨_, rfl, rv.up s23⟩
          | 2, e => cases e; exact ⟨_, rfl, .cel⟩
          | m + 3, e => cases e
        · exact Cl.up (s01.trans (s12.trans s23)) (hq0 _ _ z)
      · intro y M3 z w Hb3 H3 s23 O3 r3
        exact hq0 _ _ z (.bl false) Hb3 H3 (s01.trans (s12.trans s23)) O3 .bl
  refine wpAny_call (codeAny_mono rc fun r s3 back => ?_)
  cases r with
  | error e => exact passLN pins σ H2 s2 e s3 I2.unpinned back
  | ok fl =>
    cases fl with
    | ret w =>
      obtain ⟨y, G3, I3, r3, q3⟩ := I2.after back
      exact ⟨y, G3, I3.unpinned, r3, q3⟩
    | next => exact False.elim back
    | brk => exact False.elim back
    | cont => exact False.elim back
end DL
set_option Elab.async false
set_option linter.all false
set_option maxRecDepth 100000
set_option maxHeartbeats 4000000
/-! D layer, part U: defs that make lambdas, small things. -/
namespace DL
open PySem PySem.Spec PyProof.Rows L2 LamX
theorem roomHu {k : Nat} {A : Around} (r : L2H.RoomH k A) : A.units + 64 < cLine := by have := r.un; omega
theorem roomH1 {k : Nat} {A : Around} (r : L2H.RoomH k A) : A.units + 1 < cLine := by have := r.un; omega
/-- the body, walked with the def's own code object known -/
def WalkL (P : Program) (w : World) (K : PySem.W.Frag) (mg : Str → Option Value) (base : Heap) (N : List Str) (qual : Str) (scope : Scope) (f : Addr) (k : Nat) (body : List Stmt) (T : List (Addr × Str)) (bd : DX → DTS) : Prop :=
  ∀ (A : Around) (outer : List Env) (s : Shared) (H : Hp) (E : XK) (G : Lk) (XX : DX), Room k (A.deeper (envOfC qual scope s.heap.objs.size f (.ref (EL.codeA K f)))) → (∀ F Hb, G.g F Hb → F.tb = T) →
    Rsw (cxOf (L2N.CX P w) P w K mg base N qual scope f (.ref (EL.codeA K f)) A outer s H E) G XX → DSs (cxOf (L2N.CX P w) P w K mg base N qual scope f (.ref (EL.codeA K f)) A outer s H E) G body (bd XX)
/-- promises of defs that rely on the tables T -/
def spOfT (K : PySem.W.Frag) (T : List (Addr × Str)) (f : DSp) : Sp := fun vs H Q E => ∃ (F : Fo) (Hb : Hp) (M : Mm) (xs : List Dt) (QD : DQ) (XD : DX), F.tb = T ∧ Own K F M Hb H ∧ RepL K Hb vs xs ∧ f xs M QD XD ∧ (∀ x M', QD x M' → Cl K F Hb Q x M') ∧ ∀ c fs M', XD c fs M' → ClX K F Hb E c fs M'
section
variable {P : Program} {w : World} {K : PySem.W.Frag} {mg : Str → Option Value} {base : Heap} {x qual : Str} {params : Arguments} {body : List Stmt} {scope : Scope} {kws : List (Str × V)} {f : Addr} {fd : FuncData}
theorem code_known {dvs : List V} (F : FunD K x qual params body scope dvs kws f fd) : ∃ (oc : Value) (od : Option Addr) (dV kV doc pm : Value) (an : Option Addr) (ct : Value) (osl : Array (Option Value)),
    fd = PySem.W.fnOf x qual params body scope dV kV doc pm an (.ref (EL.codeA K f)) ct ∧ K.lookup f = some ⟨oc, od, .func fd, osl⟩ ∧ PySem.W.codeIn K (.ref (EL.codeA K f)) qual = true := by
  obtain ⟨oc, od, dV, kV, doc, pm, an, cdv, ct, osl, e, lk, hcd, _, _⟩ := F.ex
  obtain ⟨c, rfl⟩ := He.codeIn_ref hcd
  have ec : EL.codeA K f = c := by
    unfold EL.codeA
    rw [lk, e]
  rw [ec]
  exact ⟨oc, od, dV, kV, doc, pm, an, ct, osl, e, lk, hcd⟩
theorem def_okL {N ps : List Str} {k n m : Nat} {bd : DX → DTS} {T : List (Addr × Str)} (F : FunD K x qual params body scope [] kws f fd) (S : FnScope N ps scope) (W : WalkL P w K mg base N qual scope f k body T bd) (hn : ps.length = n := by rfl) (hm : N.length = m := by rfl) :
    FnOk P w K mg base (L2N.CX P w) (k + 1) f fd ps (spOfT K T (spD n m bd)) := by
  subst hn hm
  obtain ⟨oc, od, dV, kV, doc, pm, an, ct, osl, rfl, lk, hcd⟩ := code_known F
  refine fn_of lk hcd S (fun vs H Q E h => ?_) (fun A outer s H vs Q E hr h => ?_)
  · obtain ⟨F0, Hb, M, xs, QD, XD, _, O, r, h1, _⟩ := h
    rw [r.length]; exact h1.1
  · obtain ⟨F0, Hb, M, xs, QD, XD, hT, O, r, ⟨h1, h2⟩, hq, hx⟩ := h
    obtain ⟨t, pt, lt⟩ := W A outer s H E (Lk.at F0 Hb) XD hr (fun F Hb g => by rw [g.1]; exact hT) ⟨E, L2N.takes_of rfl rfl rfl rfl, fun F' Hb' g c fs M' z => by
      obtain ⟨rfl, g2⟩ := g
      exact ClX.up g2 (hx c fs M' z)⟩
    refine ⟨t, pt, ?_⟩
    refine lt.run (D := { nx := fun _ H' => Q .non H', rt := Q }) ⟨rfl, Same.refl _⟩ O (srep_start r) (lt.mono (D := { nx := fun _ M1 => QD .non M1, rt := QD }) ⟨fun ds M1 z => ?_, fun x M1 z => hq x M1 z, fun _ _ z => z.elim, fun _ _ z => z.elim⟩ h2)
    intro σ Hb' H' s' O' S'
    exact hq _ _ z .non Hb' H' s' O' .non
end
/-! ### calls of such defs -/
structure DFt (P : Program) (w : World) (K : PySem.W.Frag) (mg : Str → Option Value) (base : Heap) (k : Nat) (fa : Addr) (T : List (Addr × Str)) (f : DSp) : Prop where
  kp : PySem.W.keepIn K (.ref fa) = true
  ex : ∃ (fd : FuncData) (ps : List Str), FnOk P w K mg base (L2N.CX P w) k fa fd ps (spOfT K T f) ∧ Binds K fd ps []
theorem DFt.mono {P : Program} {w : World} {K : PySem.W.Frag} {mg : Str → Option Value} {base : Heap} {j k : Nat} {fa : Addr} {T : List (Addr × Str)} {f : DSp} (F : DFt P w K mg base j fa T f) (h : j ≤ k) : DFt P w K mg base k fa T f := by
  obtain ⟨fd, ps, h1, h2⟩ := F.ex
  exact ⟨F.kp, fd, ps, h1.mono h, h2⟩
section
variable {X : Cx} {G : Lk} {x : Str} {p pos : Pos} {e : Expr} {es : List Expr} {t : DTA} {f : DSp} {XX : DX} {k : Nat} {fa : Addr} {T : List (Addr × Str)}
theorem de_callT (F : DFt X.prog X.w X.K X.mg X.base k fa T f) (hT : ∀ F Hb, G.g F Hb → F.tb = T) (hr : Room k X.A) (hg : Gl X x) (hm : X.mg x = some (.ref fa)) (ex : Exw X G XX) (ha : DA X G (e :: es) t)
    (hdb : (x == ("__debug__" : Str)) = false := by decide) (he : starEach (e :: es) X.env = (false, eval e X.env) :: starEach es X.env := by rfl) (hpl : (backTo pos (starEach es X.env)).any (·.1) = false := by rfl) :
    DE X G (.Call (.Name x p) (e :: es) [] pos) (dCall f [] XX t) := by
  obtain ⟨ta, pa, la⟩ := ha
  obtain ⟨E, hx, hl⟩ := ex
  obtain ⟨fd, ps, ok, bd⟩ := F.ex
  refine ⟨_, pe_call ok hr hg hm F.kp bd .nil hx pa hdb he hpl, ⟨fun hq h => la.mono (fun xs M1 h1 => upQ_mono hq h1) h, fun {F σ ds Hb H M Q} g O S h => ?_⟩⟩
  refine la.run g O S (la.mono (fun xs M1 h1 vs Hb1 H1 s1 O1 r1 => ?_) h)
  obtain ⟨Q0, q1, q2⟩ := h1
  refine ⟨F, Hb1, M1, xs, Q0, XX, hT _ _ g, O1, by rw [List.append_nil]; exact r1, by rw [List.append_nil] at q2; exact q2, fun x M' z => Cl.up s1 (q1 _ _ z), hl _ _ (G.up g s1)⟩
end
/-! ### what the classes of exceptions say of one another -/
def kitsB (K : PySem.W.Frag) (c : Str) (Cs : List Str) : Bool := Cs.all fun C => decide (PySem.W.kitOne K (.ref (He.ga K c)) (.ref (He.ga K C)) = some (decide (c = C)))
theorem kitsB_ok {K : PySem.W.Frag} {c : Str} {Cs : List Str} (h : kitsB K c Cs = true) {C : Str} (hC : C ∈ Cs) : PySem.W.kitOne K (.ref (He.ga K c)) (.ref (He.ga K C)) = some (decide (c = C)) := of_decide_eq_true (List.all_eq_true.mp h C hC)
def kitT (K : PySem.W.Frag) (c : Str) (T : String) : Bool := decide (PySem.W.kitOne K (.ref (He.ga K c)) (.type T) = some true)
theorem kitT_ok {K : PySem.W.Frag} {c : Str} {T : String} (h : kitT K c T = true) : PySem.W.kitOne K (.ref (He.ga K c)) (.type T) = some true := of_decide_eq_true h
end DL
set_option Elab.async false
set_option linter.all false
set_option maxRecDepth 100000
set_option maxHeartbeats 4000000
/-! D layer, part V: comprehensions with two fors. -/
namespace DL
open PySem PySem.Spec PyProof.Rows L2
def dLc2L (g : DTG) (tt : DTT) (w1 : DTI) (g1 : DTG) (tt1 : DTT) (te : DTE) (vs1 : List Nat) (still : Mm → Prop) (ds : DSt) (Q : List Dt → Mm → Prop) : List Dt → List Dt → Mm → Prop
  | [], acc, M => still M ∧ Q acc M
  | x :: r, acc, M => still M ∧ g x ds M fun ds' M' => tt ds' M' fun b M2 => if b = true then w1 ds' M2 fun I1 M3 => dLcL g1 tt1 te I1.still (wipeD ds' vs1) (fun acc' M4 => dLc2L g tt w1 g1 tt1 te vs1 still ds Q r acc' M4) I1.items acc M3
    else dLc2L g tt w1 g1 tt1 te vs1 still ds Q r acc M2
def dLc2 (m : Bool) (w : DTI) (g : DTG) (tt : DTT) (w1 : DTI) (g1 : DTG) (tt1 : DTT) (te : DTE) (vs vs1 : List Nat) : DTE := fun ds M Q => w ds M fun I M1 => dLc2L g tt w1 g1 tt1 te vs1 I.still (wipeD ds vs) (fun acc M2 => newL m acc M2 Q) I.items [] M1
theorem wipe_sub : ∀ (vs ws : List Nat) (σ : St), (∀ v ∈ vs, v ∈ ws) → wipe (wipe σ vs) ws = wipe σ ws := by
  intro vs
  induction vs with
  | nil => intro ws σ _; rfl
  | cons v vs ih =>
    intro ws σ hv
    show wipe ((wipe σ vs).set v none) ws = wipe σ ws
    rw [wipe_set_mem _ (hv v List.mem_cons_self), ih ws σ fun u hu => hv u (List.mem_cons_of_mem _ hu)]
section
variable {K : PySem.W.Frag} {G : Lk} {w w1 : DTI} {g g1 : DTG} {tt tt1 : DTT} {te : DTE}
theorem le_lc2 (m : Bool) {wi wi1 : TI} {tgg tgg1 : TG} {ttt ttt1 : TT} {tte : TE} {vs vs1 : List Nat} (li : LI K G wi w) (lg : LW K vs tgg g) (lt : LT K Lk.any ttt tt) (li1 : LI K Lk.any wi1 w1) (lg1 : LW K vs1 tgg1 g1) (lt1 : LT K Lk.any ttt1 tt1) (le : LE K Lk.any tte te) :
    LE K G (tLc2 wi tgg ttt wi1 tgg1 ttt1 tte vs vs1) (dLc2 m w g tt w1 g1 tt1 te vs vs1) := by
  refine ⟨fun {ds M Q Q'} hq h => li.mono (fun I M1 h1 => ?_) h, fun {F σ ds Hb H M Q} gg O S h => ?_⟩
  · have key : ∀ (l acc : List Dt) (M : Mm), dLc2L g tt w1 g1 tt1 te vs1 I.still (wipeD ds vs) (fun acc M2 => newL m acc M2 Q) l acc M → dLc2L g tt w1 g1 tt1 te vs1 I.still (wipeD ds vs) (fun acc M2 => newL m acc M2 Q') l acc M := by
      intro l
      induction l with
      | nil => intro acc M h; exact ⟨h.1, newL_mono hq h.2⟩
      | cons x r ih =>
        intro acc M h
        refine ⟨h.1, lg.mono (fun ds' M' h1 => lt.mono (fun b M2 h2 => ?_) h1) h.2⟩
        cases b
        · exact ih _ _ h2
        · exact li1.mono (fun I1 M3 h3 => dLcL_mono (g := g1) (tt := tt1) (te := te) lg1.mono lt1.mono le.mono (fun a M z => ih _ _ z) _ _ _ h3) h2
    exact key _ _ _ h1
  refine li.run gg O S (li.mono (fun I M1 h1 J Hb1 H1 s1 O1 R1 => ?_) h)
  intro D hD
  have hF : F.hp D = none := (O1.free hD).2.1
  refine ⟨fun i mm H' => mm = I.items.length - i ∧ i ≤ I.items.length ∧ ∃ acc vacc M' Hb', Same Hb1 Hb' ∧ Own K (F.put D (.lst vacc)) M' Hb' H' ∧ RepL K Hb' vacc acc ∧
      dLc2L g tt w1 g1 tt1 te vs1 I.still (wipeD ds vs) (fun acc M2 => newL m acc M2 (Cl K F Hb Q)) (I.items.drop i) acc M', ⟨_, rfl, Nat.zero_le _, [], [], M1, Hb1, Same.refl _, O1.addF hD, .nil, h1⟩, ?_⟩
  rintro i mm H2 ⟨rfl, hi, acc, vacc, M2, Hb2, s2, O2, r2, h2⟩
  have hDH : H2 D = some (.lst vacc) := O2.fr _ _ upd_same
  cases e : I.items.drop i with
  | nil =>
    rw [e] at h2
    have hl : I.items.length ≤ i := List.drop_eq_nil_iff.mp e
    refine .inl ⟨(R1 _ Hb2 H2 M2 s2 O2 h2.1).2 i hl, ?_⟩
    cases m with
    | false =>
      have sn := same_new (o := HO.lst vacc) (O2.dj D _ upd_same)
      exact h2.2 _ _ _ ((s1.trans s2).trans sn) (O2.fromF hF) (.lst upd_same (r2.up sn))
    | true => exact h2.2 D O2.MF _ _ _ (s1.trans s2) (O2.fromFM hF (.lst hDH r2)) .cel
  | cons x r =>
    rw [e] at h2
    obtain ⟨e1, e2⟩ := drop_cons e
    have hlt : i < I.items.length := (List.getElem?_eq_some_iff.mp e1).1
    obtain ⟨go, step⟩ := (R1 _ Hb2 H2 M2 s2 O2 h2.1).1 i x e1
    refine .inr ⟨go, fun H' => ∃ acc vacc M' Hb', Same Hb1 Hb' ∧ Own K (F.put D (.lst vacc)) M' Hb' H' ∧ RepL K Hb' vacc acc ∧ dLc2L g tt w1 g1 tt1 te vs1 I.still (wipeD ds vs) (fun acc M2 => newL m acc M2 (Cl K F Hb Q)) r acc M',
      fun H' z => ⟨I.items.length - (i + 1), by omega, rfl, hlt, by rw [e2]; exact z⟩, fun v H3 y => ?_⟩
    obtain ⟨Hb3, s3, O3, r3⟩ := step v H3 y
    have s13 := s2.trans s3
    refine lg.run O3 ((S.up (s1.trans s13)).wipe vs) r3 (lg.mono (fun ds4 M4 h4 σ4 Hb4 H4 s4 O4 S4 w4 => ?_) h2.2)
    refine ⟨w4.trans (wipe_sub vs vs σ fun _ h => h), lt.run trivial O4 S4 (lt.mono (fun b M5 h5 Hb5 H5 s5 O5 => ?_) h4)⟩
    cases b with
    | false => exact ⟨acc, vacc, M5, Hb5, (s13.trans s4).trans s5, O5, r2.up ((s3.trans s4).trans s5), h5⟩
    | true =>
      refine iteT (li1.run trivial O5 (S4.up s5) (li1.mono (fun I1 M6 h6 J1 Hb6 H6 s6 O6 R6 => ?_) h5))
      have s16 := ((s13.trans s4).trans s5).trans s6
      refine ⟨fun j kk H' => kk = I1.items.length - j ∧ j ≤ I1.items.length ∧ ∃ acc vacc M' Hb', Same Hb6 Hb' ∧ Own K (F.put D (.lst vacc)) M' Hb' H' ∧ RepL K Hb' vacc acc ∧
          dLcL g1 tt1 te I1.still (wipeD ds4 vs1) (fun acc' M4 => dLc2L g tt w1 g1 tt1 te vs1 I.still (wipeD ds vs) (fun acc M2 => newL m acc M2 (Cl K F Hb Q)) r acc' M4) (I1.items.drop j) acc M',
        ⟨_, rfl, Nat.zero_le _, acc, vacc, M6, Hb6, Same.refl _, O6, r2.up (((s3.trans s4).trans s5).trans s6), h6⟩, ?_⟩
      rintro j kk H7 ⟨rfl, hj, acc7, vacc7, M7, Hb7, s7, O7, r7, h7⟩
      cases f : I1.items.drop j with
      | nil =>
        rw [f] at h7
        have hl : I1.items.length ≤ j := List.drop_eq_nil_iff.mp f
        exact .inl ⟨(R6 _ Hb7 H7 M7 s7 O7 h7.1).2 j hl, acc7, vacc7, M7, Hb7, s16.trans s7, O7, r7, h7.2⟩
      | cons x1 q1 =>
        rw [f] at h7
        obtain ⟨f1, f2⟩ := drop_cons f
        have hlt1 : j < I1.items.length := (List.getElem?_eq_some_iff.mp f1).1
        obtain ⟨go1, step1⟩ := (R6 _ Hb7 H7 M7 s7 O7 h7.1).1 j x1 f1
        refine .inr ⟨go1, fun H' => ∃ acc vacc M' Hb', Same Hb6 Hb' ∧ Own K (F.put D (.lst vacc)) M' Hb' H' ∧ RepL K Hb' vacc acc ∧
            dLcL g1 tt1 te I1.still (wipeD ds4 vs1) (fun acc' M4 => dLc2L g tt w1 g1 tt1 te vs1 I.still (wipeD ds vs) (fun acc M2 => newL m acc M2 (Cl K F Hb Q)) r acc' M4) q1 acc M',
          fun H' z => ⟨I1.items.length - (j + 1), by omega, rfl, hlt1, by rw [f2]; exact z⟩, fun v8 H8 y8 => ?_⟩
        obtain ⟨Hb8, s8, O8, r8⟩ := step1 v8 H8 y8
        have s48 := ((s5.trans s6).trans s7).trans s8
        refine lg1.run O8 ((S4.up s48).wipe vs1) r8 (lg1.mono (fun ds9 M9 h9 σ9 Hb9 H9 s9 O9 S9 w9 => ?_) h7.2)
        refine ⟨w9.trans (wipe_sub vs1 vs1 σ4 fun _ h => h), lt1.run trivial O9 S9 (lt1.mono (fun b M10 h10 Hb10 H10 s10 O10 => ?_) h9)⟩
        have s710 := ((s8.trans s9).trans s10)
        cases b with
        | false => exact ⟨acc7, vacc7, M10, Hb10, s7.trans s710, O10, r7.up s710, h10⟩
        | true =>
          refine iteT (le.run trivial O10 (S9.up s10) (le.mono (fun y M11 h11 u Hb11 H11 s11 O11 r11 => ?_) h10))
          have hD11 : H11 D = some (.lst vacc7) := O11.fr _ _ upd_same
          refine ⟨vacc7, hD11, by rw [r7.length]; exact h11.1, acc7 ++ [y], vacc7 ++ [u], M11, Hb11, (s7.trans s710).trans s11, O11.updF (hF := hF), ?_, h11.2⟩
          exact (r7.up (s710.trans s11)).append (.cons r11 .nil)
end
section
variable {X : Cx} {G : Lk} {elt tg iter tg1 iter1 : Expr} {ifs ifs1 : List Expr} {scope : Scope} {pos spos py : Pos} {w w1 : DTI} {g g1 : DTG} {tt tt1 : DTT} {te : DTE}
theorem de_lc2 (m : Bool) (own : List (Str × Nat)) (vs1 : List Nat) (hc : X.calm = true) (hN : X.N.Nodup) (hi : DI X G tg iter w) (hg : DGw X scope (own.map (·.2)) tg g) (ht : DTs X scope ifs tt) (hi1 : DIb X scope tg1 iter1 w1) (hg1 : DGw X scope vs1 tg1 g1) (ht1 : DTs X scope ifs1 tt1) (he : DEb X scope elt te)
    (ok : blkC X.N X.env.scope scope own = true := by decide +kernel) (hv : ∀ i ∈ vs1, i ∈ own.map (·.2) := by decide) (hs : ∀ x, foldedSetIterable iter X.env x = pure x := by intro _; rfl) (hs1 : ∀ env x, foldedSetIterable iter1 env x = pure x := by intro _ _; rfl) :
    DE X G (.ListComp elt [⟨tg, iter, ifs, 0⟩, ⟨tg1, iter1, ifs1, 0⟩] scope pos) (dLc2 m w g tt w1 g1 tt1 te (own.map (·.2)) vs1) := by
  obtain ⟨t1, p1, l1⟩ := hi
  obtain ⟨t2, p2, l2⟩ := hg
  obtain ⟨t3, p3, l3⟩ := ht
  obtain ⟨t5, p5, l5⟩ := hg1
  obtain ⟨t6, p6, l6⟩ := ht1
  have l := le_lc2 (G := G) (vs := own.map (·.2)) m l1 l2 l3 (li_canb hi1) l5 l6 (le_canb he)
  exact ⟨_, pe_lc2 hc hN p1 (blkOk_by ok) hv p2 p3 (fun s H C cl fp => pi_can (hi1 s H C cl fp)) p5 p6 (fun s H C cl fp => pe_can (he s H C cl fp)) hs hs1, l⟩
end
end DL
set_option Elab.async false
set_option linter.all false
set_option maxRecDepth 100000
set_option maxHeartbeats 4000000
/-! D layer, part W: enumerate over a text, a text backwards. -/
namespace DL
open PySem PySem.Spec PyProof.Rows L2
/-- the signs of x with their places, each in a new pair -/
def ItS (x : Str) : It :=
  ⟨fun i _ => i < x.cps.size, fun i H v H' => ∃ T c, v = .ref T ∧ H T = none ∧ H' = upd H T (.tup [.int (i : Nat), .str ⟨#[c]⟩]) ∧ x.cps[i]? = some c, fun i _ => x.cps.size ≤ i⟩
theorem turn_enumS {P : Program} {w : World} {K : PySem.W.Frag} {elts : List Expr} {kk : Nat} {tpos : Pos} (x : Str) (t : Tok) (ty : String) (hty : ty = "str_ascii_iterator" ∨ ty = "str_iterator") (e it : Addr) :
    Turn P w K (.Tuple elts kk tpos) (ItS x) [e, it] e (fun i h => (∃ old, IsEnum h e it ((i : Nat) : Int) old) ∧ h.IsStrIter it ty x t i ∧ e ≠ it ∧ i ≤ x.cps.size) where
  mem := List.mem_cons_self
  obj := fun i h st b hb => by
    obtain ⟨⟨old, he⟩, ⟨o, ho, hc, hd⟩, _⟩ := st
    rcases List.mem_cons.mp hb with z | z
    · rw [z]; exact ⟨_, he, fun v q => nomatch q⟩
    · rw [List.mem_singleton.mp z]; exact ⟨o, ho, fun v q => by rw [hd] at q; cases q⟩
  keep := fun i h h' st k => by
    obtain ⟨⟨old, he⟩, ⟨o, ho, r⟩, hne⟩ := st
    exact ⟨⟨old, k e List.mem_cons_self _ he⟩, ⟨o, k it (List.mem_cons_of_mem _ List.mem_cons_self) _ ho, r⟩, hne⟩
  item := by
    intro X hP hw hK hc i pins s σ H E I hf st hg
    subst hP hw hK
    obtain ⟨⟨old, he⟩, hit, hne, _⟩ := st
    have D : Draws X.prog X.w X.A.in1 it [it] x.cps.size (fun i v => ∃ c u, x.cps[i]? = some c ∧ v = .str ⟨#[c]⟩ u) (fun i h => h.IsStrIter it ty x t i) := by
      have hh : X.A.in1.handled = none := I.ok.hd hc
      rcases hty with z | z
      · rw [z]; exact Draws.strAscii hh it x t
      · rw [z]; exact Draws.strWide hh it x t
    have hel : e < s.heap.objs.size := Heap.lt_size he
    have hil : it < s.heap.objs.size := by obtain ⟨_, q, _⟩ := hit; exact Heap.lt_size q
    refine wpAny_pyNext_enum_itemD D he hit hg hne (fun z => hne (List.mem_singleton.mp z)) fun v h' tk hv ho hit' hT hsz hk => ?_
    obtain ⟨c, u, hcx, rfl⟩ := hv
    refine ⟨_, rfl, wpAny_letOwnedTupleGo_enum (s := { s with heap := h', toks := tk + 1 }) ho fun h'' he' sb => ?_⟩
    have hT2 : h''.get? s.heap.objs.size = some { cls := .type "tuple", data := .seq #[.int i tk, .str ⟨#[c]⟩ u] } := (sb.2 _ (Nat.ne_of_gt hel)).trans hT
    have new : ObjOk X.prog X.w (upd H s.heap.objs.size (.tup [.int (i : Nat), .str ⟨#[c]⟩])) h'' s.heap.objs.size (.tup [.int (i : Nat), .str ⟨#[c]⟩]) :=
      ⟨by show 2 ≤ sizeLine; decide, [.int i tk, .str ⟨#[c]⟩ u], .cons ⟨_, rfl⟩ (.cons ⟨_, rfl⟩ .nil), ⟨_, hT2, rfl, _, rfl⟩⟩
    have I1 : Inv X pins σ (upd H s.heap.objs.size (.tup [.int (i : Nat), .str ⟨#[c]⟩])) { s with heap := h'', toks := tk + 1 } :=
      I.turnedNew (ch := [e, it]) (fun b ob hb q => (sb.2 b (fun z => hb (by rw [z]; exact List.mem_cons_self))).trans (hk b ob (fun z => hb (by rw [z]; exact List.mem_cons_self)) (fun z => hb (by rw [z]; exact List.mem_cons_of_mem _ List.mem_cons_self)) q)) hf (Nat.le_refl _) new
    refine ⟨.ref s.heap.objs.size, _, I1, rfl, ⟨_, c, rfl, I.hok.fresh (Nat.le_refl _), rfl, hcx⟩, ⟨⟨.str ⟨#[c]⟩ u, ?_⟩, ?_, hne, hg⟩, fun b hb => ?_⟩
    · have e1 : ((i + 1 : Nat) : Int) = (i : Int) + 1 := by omega
      rw [e1]; exact he'
    · obtain ⟨o, q, r⟩ := hit'
      exact ⟨o, (sb.2 it (Ne.symm hne)).trans q, r⟩
    · have hb' : b < s.heap.objs.size := by
        rcases List.mem_cons.mp hb with z | z
        · rw [z]; exact hel
        · rw [List.mem_singleton.mp z]; exact hil
      rw [upd_ne (Nat.ne_of_lt hb')]
      exact (hf b hb).1
  done := by
    intro X hP hw hK hc i pins s σ H E I hf st hg
    subst hP hw hK
    obtain ⟨⟨old, he⟩, hit, hne, hle⟩ := st
    have ei : i = x.cps.size := Nat.le_antisymm hle hg
    have D : Draws X.prog X.w X.A.in1 it [it] x.cps.size (fun i v => ∃ c u, x.cps[i]? = some c ∧ v = .str ⟨#[c]⟩ u) (fun i h => h.IsStrIter it ty x t i) := by
      have hh : X.A.in1.handled = none := I.ok.hd hc
      rcases hty with z | z
      · rw [z]; exact Draws.strAscii hh it x t
      · rw [z]; exact Draws.strWide hh it x t
    obtain ⟨f0, f1, f2, f3, f4, f5⟩ := hf it (List.mem_cons_of_mem _ List.mem_cons_self)
    rw [ei] at hit
    exact wpAny_pyNext_enum_endD D he hit fun h' eb => ⟨rfl, I.turned (t' := s.toks) (fun b o hb q => eb b o hb q) f0 f1 f3 f4 f5⟩
  self := fun A i s Q E st h => by
    obtain ⟨⟨_, he⟩, _⟩ := st
    exact wpAny_pyIter_enum he h
def iEnumS (ta : TA) : TI := fun σ H R => ta σ H fun vs H1 => ∃ x, vs = [.str x] ∧ R (ItS x) H1
theorem pi_enumS {X : Cx} {e : Expr} {ta : TA} {p pos tpos : Pos} {elts : List Expr} {kk : Nat} (hg : Gl X "enumerate") (hm : X.mg "enumerate" = none) (ha : PA X [e] ta) (hs : starEach [e] X.env = [(false, eval e X.env)] := by rfl) :
    PI X (.Tuple elts kk tpos) (.Call (.Name "enumerate" p) [e] [] pos) (iEnumS ta) := by
  refine ⟨fun pins s σ H R I h => ?_⟩
  refine Call_ (ld_blt I hg hm boot_enumerate (PyProof.Rows.callWith_type1 (thn (ha.run pos pins s σ H _ I h) fun us s1 hu => ?_) hs rfl))
  obtain ⟨vs, H1, I1, r1, x, ex, q⟩ := hu
  subst ex
  cases r1 with
  | cons r rr =>
    cases rr
    obtain ⟨t, rfl⟩ := r
    refine call_enumerate_str fun h' he hit hsz hk => wpAny_pyIter_enum he ?_
    have I2 : Inv X pins σ H1 { s1 with heap := h' } := I1.kept (t' := s1.toks) hk
    refine ⟨s1.heap.objs.size + 1, [s1.heap.objs.size + 1, s1.heap.objs.size], _, ItS x, H1, rfl, I2, turn_enumS x t (strIterType x) (by unfold strIterType; split <;> simp) (s1.heap.objs.size + 1) s1.heap.objs.size, ⟨⟨.none, he⟩, hit, Nat.succ_ne_self _, Nat.zero_le _⟩, fun b hb => ?_, q⟩
    have hle : s1.heap.objs.size ≤ b := by
      rcases List.mem_cons.mp hb with z | z
      · rw [z]; exact Nat.le_succ _
      · rw [List.mem_singleton.mp z]; exact Nat.le_refl _
    exact I1.fpOk hle (I1.hok.fresh hle)
theorem itS_ok {K : PySem.W.Frag} {Hb : Hp} {x : Str} : ItRep K (ItS x) ⟨enumD 0 (signs x), fun _ => True⟩ Hb := by
  intro F2 Hb2 H2 M2 s O st
  have hl : (signs x).length = x.cps.size := by unfold signs; rw [List.length_map, Array.length_toList]
  refine ⟨fun i d e => ?_, fun i h => by
    rw [enumD_length, hl] at h; exact h⟩
  obtain ⟨y, e1, e2⟩ := enumD_get e
  subst e2
  have hi : i < x.cps.size := by rw [← hl]; exact (List.getElem?_eq_some_iff.mp e1).1
  refine ⟨hi, fun w H3 q => ?_⟩
  obtain ⟨T, c, rfl, hT, rfl, hc⟩ := q
  have ey : y = .str ⟨#[c]⟩ := by
    unfold signs at e1
    rw [List.getElem?_map, Array.getElem?_toList, hc] at e1
    exact (Option.some.inj e1).symm
  subst ey
  have sn := same_new (o := HO.tup [.int (i : Nat), .str ⟨#[c]⟩]) (O.free hT).1
  exact ⟨_, sn, O.new hT, .tup (SqT.of upd_same) (.cons (by rw [Nat.zero_add]; exact .int) (.cons .str .nil))⟩
def dEnumS (t : DTA) : DTI := fun ds M R => t ds M fun xs M1 => match xs with
  | [.str x] => R ⟨enumD 0 (signs x), fun _ => True⟩ M1
  | _ => False
section
variable {X : Cx} {G : Lk} {a : Expr} {t : DTA} {p pos : Pos}
theorem di_enumS {tpos : Pos} {elts : List Expr} {kk : Nat} (hg : Gl X "enumerate") (hm : X.mg "enumerate" = none) (ha : DA X G [a] t) (hs : starEach [a] X.env = [(false, eval a X.env)] := by rfl) :
    DI X G (.Tuple elts kk tpos) (.Call (.Name "enumerate" p) [a] [] pos) (dEnumS t) := by
  obtain ⟨ta, pa, la⟩ := ha
  refine ⟨_, pi_enumS hg hm pa hs, ⟨fun hr h => la.mono (fun xs M1 h1 => ?_) h, fun {F σ ds Hb H M R} g O S h => la.run g O S (la.mono (fun xs M1 h1 vs Hb1 H1 s1 O1 r1 => ?_) h)⟩⟩
  · split at h1
    · exact hr _ _ h1
    · exact h1.elim
  · split at h1
    · cases r1 with
      | cons r2 r3 => cases r2; cases r3; exact ⟨_, rfl, h1 _ _ _ s1 O1 itS_ok⟩
    · exact h1.elim
/-- text[::-1] -/
def revS (x : Str) : Str := ⟨((Builtin.Str.strSliceIndices none none (-1) x.length).filterMap (x.cps[·]?)).toArray⟩
def dRevS (t : DTE) : DTE := fun ds M Q => t ds M fun x M1 => match x with
  | .str z => z.length ≤ sizeLine ∧ (revS z).length ≤ sizeLine ∧ Q (.str (revS z)) M1
  | _ => False
def tRevS (te : TE) : TE := fun σ H Q => te σ H fun x H1 => ∃ z, x = .str z ∧ (revS z).length ≤ sizeLine ∧ Q (.str (revS z)) H1
theorem pe_revS {e : Expr} {te : TE} {k : Nat} {p1 p2 p3 : Pos} (he : PE X e te) : PE X (.Subscript e (.Slice none none (some (.UnaryOp .USub (.Constant (.int 1) k p1) p2)) p3) pos) (tRevS te) := by
  refine ⟨fun pins s σ H Q I h => ?_⟩
  refine Subscript_ (thn (he.run pins s σ H _ I h) fun v s1 hv => ?_)
  obtain ⟨x, H1, I1, r1, z, ex, hz, q⟩ := hv
  subst ex
  obtain ⟨t, rfl⟩ := r1
  have part : PO X (some (.UnaryOp .USub (.Constant (.int 1) k p1) p2)) (tPart (tUn (rU fun i => .int (-i)) (tC (.int 1)))) := po_some (pe_un un_neg pe_int)
  refine wpAny_Slice (thn (po_none.run pins s1 σ H1 (fun o G => o = none ∧ G = H1) I1 ⟨rfl, rfl⟩) fun vl s2 hl => ?_)
  obtain ⟨l, H2, I2, pl, rfl, rfl⟩ := hl
  refine thn (po_none.run pins s2 σ _ (fun o G => o = none ∧ G = _) I2 ⟨rfl, rfl⟩) fun vu s3 hu => ?_
  obtain ⟨u, H3, I3, pu, rfl, rfl⟩ := hu
  refine thn (part.run pins s3 σ _ (fun o G => o = some (-1) ∧ G = _) I3 ⟨1, rfl, -1, rfl, rfl, rfl⟩) fun vs s4 hs => ?_
  obtain ⟨o, H4, I4, ps, rfl, rfl⟩ := hs
  obtain ⟨l0, el, _⟩ := IsPart.raw pl
  obtain ⟨u0, eu, _⟩ := IsPart.raw pu
  obtain ⟨st0, es, hst⟩ := IsPart.raw ps
  have I5 : Inv X pins σ _ { s4 with heap := s4.heap.push { cls := .type "slice", data := .fields #[vl, vu, vs] } } := I4.kept (t' := s4.toks) fun b ob q => Heap.get?_push_of_some _ q
  show wpAny (model X.prog X.w) X.A (subscriptTail e (.Slice none none (some (.UnaryOp .USub (.Constant (.int 1) k p1) p2)) p3) (.str z t) (.ref s4.heap.objs.size)) (EP X pins σ Q) X.xe { s4 with heap := s4.heap.push { cls := .type "slice", data := .fields #[vl, vu, vs] } }
  refine tail_any (ops := [.str z t, .ref s4.heap.objs.size]) (typeIs_str _ _ _) (PySem.F.slot_str_getitem.lookup) ?_ (by with_unfolding_all rfl)
  subst el eu es
  have l0e : l0 = none := by cases l0 with | none => rfl | some _ => rename_i h; cases h
  have u0e : u0 = none := by cases u0 with | none => rfl | some _ => rename_i h; cases h
  refine wpAny_getItem_str_slice (l := l0) (u := u0) (st := st0) ⟨_, Heap.get?_push_size _ rfl, rfl, rfl⟩ (by rw [hst]; rfl) ?_
  subst l0e u0e
  have e1 : sliceMade z t none none st0 = .str (revS z) := by
    unfold sliceMade slicePicked revS
    rw [hst]
    exact if_neg (by simp)
  rw [e1]
  exact ⟨hz, .str (revS z), _, I5.tok _, ⟨_, rfl⟩, q⟩
theorem de_revS {e : Expr} {t : DTE} {k : Nat} {p1 p2 p3 : Pos} (h : DE X G e t) : DE X G (.Subscript e (.Slice none none (some (.UnaryOp .USub (.Constant (.int 1) k p1) p2)) p3) pos) (dRevS t) := by
  obtain ⟨ta, pa, la⟩ := h
  refine ⟨_, pe_revS pa, ⟨fun hq h => la.mono (fun x M1 h1 => ?_) h, fun {F σ ds Hb H M Q} g O S h => la.run g O S (la.mono (fun x M1 h1 v Hb1 H1 s1 O1 r1 => ?_) h)⟩⟩
  · cases x <;> first | exact h1.elim | exact ⟨h1.1, h1.2.1, hq _ _ h1.2.2⟩
  · cases r1 <;> first | exact h1.elim | exact ⟨_, rfl, h1.2.1, h1.2.2 _ _ _ s1 O1 .str⟩
end
end DL
set_option Elab.async false
set_option linter.all false
set_option maxRecDepth 100000
set_option maxHeartbeats 4000000
/-! D layer, part Y: sum of a list or a tuple. -/
namespace DL
open PySem PySem.Spec PyProof.Rows L2
section
variable {prog : Program} {w : World} {A : Around} {E : Value → Shared → Prop} {s : Shared} {l : Addr} {its : List Value} {ns : List Int} {Q : Value → Shared → Prop}
theorem sum_tup_raw (hh : A.handled = none) (hl : s.heap.IsTuple l its.toArray) (hi : IntsAre its ns)
    (h : ∀ h' tk t', (∀ b o, s.heap.get? b = some o → h'.get? b = some o) → Q (.int ns.sum t') { s with heap := h', toks := tk }) : wpAny (model prog w) A (call (.builtin "sum") [.ref l]) Q E s := by
  obtain ⟨xs, e⟩ := hi.allInts.items
  have hn : numsOf (intItems xs).toList = ns := by rw [← e]; exact hi.numsOf
  rw [nums_intItems] at hn
  rw [e] at hl
  have hlt : l < s.heap.objs.size := by obtain ⟨_, e, _⟩ := hl; exact Heap.lt_size e
  refine call_sum_walkG (wpAny_pyIter_tuple hl ?_)
  refine ⟨_, [s.heap.objs.size, l], [s.heap.objs.size], _, _, _, numAt xs, rfl, Walks.tuple (A := A.in1) hh _ l (Nat.ne_of_lt hlt) (intItems xs), ⟨⟨_, Heap.get?_push_size _ rfl, rfl, rfl⟩, hl.push _⟩, fun b hb => ?_, (fun _ _ => intItems_at), fun h' tk t' hk => ?_⟩
  · show b < (s.heap.push _).objs.size
    rw [Heap.size_push]
    rcases List.mem_cons.mp hb with rfl | hb
    · exact Nat.lt_succ_self _
    · rcases List.mem_cons.mp hb with rfl | hb
      · exact Nat.lt_succ_of_lt hlt
      · cases hb
  · have := h h' tk t' (fun b o e => hk b o (fun hm => by
      have : b = s.heap.objs.size := by simpa using hm
      have h2 := Heap.lt_size e
      rw [this] at h2; exact Nat.lt_irrefl _ h2) (Heap.get?_push_of_some _ e))
    have e2 : preSum (numAt xs) (intItems xs).size = ns.sum := by
      rw [preSum_eq, List.take_of_length_le (by simp [intItems]), hn]
    rw [e2]
    exact this
end
def rSumA (K : PySem.W.Frag) : List V → Hp → VK → Prop := fun vs H Q => ∃ (a : Addr) (ns : List Int), vs = [V.ref a] ∧ (SqL K H a (ns.map V.int) ∨ SqT K H a (ns.map V.int)) ∧ Q (.int ns.sum) H
theorem cr_sumA {X : Cx} (hc : X.calm = true) : CallR X (.builtin "sum") (rSumA X.K) := by
  intro pins s σ H vs us Q I r h
  obtain ⟨a, ns, rfl, hs, q⟩ := h
  rcases hs with hs | hs
  · exact cr_sum hc _ _ _ _ _ _ _ I r ⟨a, ns, rfl, hs, q⟩
  · obtain ⟨its, rv, hl, _⟩ := I.tuple hs
    rw [Vals.ref1 r]
    exact sum_tup_raw (I.ok.hd hc) hl rv.ints fun h' tk t' hk => ⟨.int _, H, I.kept hk, ⟨_, rfl⟩, q⟩
/-- sum of ints -/
def dSumA : DRC := fun xs M Q => match xs with
  | [x] => (match (seqD M x).bind intsD with
    | some ns => Q (.int ns.sum) M
    | none => False)
  | _ => False
theorem lc_sumA {K : PySem.W.Frag} : LC K (rSumA K) dSumA := by
  refine ⟨fun {xs M Q Q'} hq h => ?_, fun {F Hb H M xs vs Q} O r h => ?_⟩
  · unfold dSumA at h ⊢
    split at h
    · split at h
      · exact hq _ _ h
      · exact h.elim
    · exact h.elim
  · cases xs with
    | nil => exact h.elim
    | cons x t =>
      cases t with
      | cons _ _ => exact h.elim
      | nil =>
        have hz : (match (seqD M x).bind intsD with | some ns => (Cl K F Hb Q) (.int ns.sum) M | none => False) := h
        split at hz
        · rename_i ns e
          obtain ⟨l, e1, e2⟩ := Option.bind_eq_some_iff.mp e
          cases r with
          | cons r1 r2 =>
            cases r2
            have key : (∃ ys, x = .tup ys) ∨ seqD M x = rview M x := by
              cases x with
              | tup ys => exact .inl ⟨ys, rfl⟩
              | _ => exact .inr rfl
            rcases key with ⟨ys, rfl⟩ | key
            · have e1 : some ys = some l := e1
              cases e1
              cases r1 with
              | tup h1 h2 =>
                have := intsD_rep e2 h2
                subst this
                exact ⟨_, ns, rfl, .inr (SqT.up O.same h1), hz _ _ _ (Same.refl _) O .int⟩
            · obtain ⟨a, ws, rfl, h1, h2⟩ := rview_run O r1 (key ▸ e1)
              have := intsD_rep e2 h2
              subst this
              exact ⟨a, ns, rfl, .inl h1, hz _ _ _ (Same.refl _) O .int⟩
        · exact hz.elim
end DL
set_option Elab.async false
set_option linter.all false
set_option maxRecDepth 100000
set_option maxHeartbeats 4000000
/-! D layer, part Z: how often True stands in a list of bools. -/
namespace DL
open PySem PySem.Spec PyProof.Rows L2
def isTru : Value → Bool
  | .bool b => b
  | _ => false
theorem tru_at {A : Around} {s : Shared} {b : Bool} : SeqAt.EqAt A s (.bool b) (.bool true) b := by
  have := SeqAt.EqAt.bool_bool (A := A) (s := s) b true
  rw [show (b == true) = b by cases b <;> rfl] at this
  exact this
theorem vals_bools {K : Unit} : ∀ {bs : List Bool} {us : List Value}, Vals (bs.map V.bl) us → us = bs.map Value.bool
  | [], _, .nil => rfl
  | b :: bs, _, .cons r t => by
    rw [vals_bools (K := ()) t]
    cases r; rfl
def rCntB (K : PySem.W.Frag) : V → List V → Hp → VK → Prop := fun x xs H Q => ∃ (p : Addr) (bs : List Bool), x = .ref p ∧ xs = [.bl true] ∧ SqL K H p (bs.map V.bl) ∧ Q (.int ((bs.filter id).length : Nat)) H
theorem mt_cntB {X : Cx} : MtR X "list.count" (rCntB X.K) := by
  intro pins s σ H x xs v us Q I rx rxs h
  obtain ⟨p, bs, rfl, rfl, hs, q⟩ := h
  cases rx
  obtain ⟨u, rfl, ru⟩ := rxs.one
  cases ru
  obtain ⟨its, rv, ⟨⟨cls, dd, data, sl⟩, n, ho, hc, hdn, hd⟩, hlen⟩ := I.list hs
  simp only at hc hd
  subst hc hd
  have hi := vals_bools (K := ()) rv
  refine call_meets PySem.F.slot_list_count ⟨_, ho, rfl⟩ PySem.F.entry_list_count (PySem.F.args_list_count_2 _ _)
    (SeqAt.list_countAt p its.toArray n dd sl (.bool true) isTru) ⟨ho, fun y hy => ?_, ?_⟩
  · rw [hi] at hy
    have hy : y ∈ bs.map Value.bool := by simpa using hy
    obtain ⟨b, _, rfl⟩ := List.mem_map.mp hy
    exact tru_at
  · have ec : its.toArray.toList.countP isTru = (bs.filter id).length := by
      rw [hi]
      show (bs.map Value.bool).countP isTru = _
      rw [List.countP_map, List.countP_eq_length_filter]
      rfl
    refine ⟨.int ((bs.filter id).length : Nat), H, I.tok _, ⟨s.toks, ?_⟩, q⟩
    show Value.int ((its.toArray.toList.countP isTru : Nat) : Int) s.toks = Value.int (((bs.filter id).length : Nat) : Int) s.toks
    rw [ec]
/-- xs.count(True) of a list of bools -/
def dCntB : DRM := fun x vs M Q => ∃ bs : List Bool, rview M x = some (bs.map Dt.bl) ∧ vs = [.bl true] ∧ Q (.int ((bs.filter id).length : Nat)) M
theorem repl_bools {K : PySem.W.Frag} {H : Hp} : ∀ {bs : List Bool} {vs : List V}, RepL K H vs (bs.map Dt.bl) → vs = bs.map V.bl
  | [], _, .nil => rfl
  | b :: bs, _, .cons r t => by
    rw [repl_bools t]
    cases r; rfl
theorem lm_cntB {K : PySem.W.Frag} : LM K "list" (rCntB K) dCntB := by
  refine ⟨fun {x xs M Q Q'} hq h => ?_, fun {F Hb H M x xs v vs Q} O r rs h => ?_⟩
  · obtain ⟨bs, h1, h2, h3⟩ := h
    exact ⟨bs, h1, h2, hq _ _ h3⟩
  · obtain ⟨bs, h1, rfl, h3⟩ := h
    obtain ⟨a, ws, rfl, g1, g2⟩ := rview_run O r h1
    have := repl_bools g2
    subst this
    cases rs with
    | cons r1 r2 =>
      cases r2
      cases r1
      exact ⟨a, bs, rfl, rfl, g1, h3 _ _ _ (Same.refl _) O .int⟩
end DL
set_option Elab.async false
set_option linter.all false
set_option maxRecDepth 100000
set_option maxHeartbeats 4000000
/-! D layer: + and == by the own methods of a class; x in a list. -/
namespace DL
open PySem PySem.Spec PyProof.Rows L2
structure OpO (K : PySem.W.Frag) (C g : Addr) (m : Str) : Prop where
  at_ : PySem.W.findIn K (.ref C) m = some (some (.ref g))
  fn : PySem.W.isFn K (.ref g) = true
  first : PySem.W.selfFirst K C = true
theorem EL.opB_ok' : True := trivial
def opB (K : PySem.W.Frag) (c m : Str) : Bool := decide (PySem.W.findIn K (.ref (He.ga K c)) m = some (some (.ref (He.ma K (He.ga K c) m)))) && (PySem.W.isFn K (.ref (He.ma K (He.ga K c) m)) && PySem.W.selfFirst K (He.ga K c))
theorem opB_ok {K : PySem.W.Frag} {c m : Str} (h : opB K c m = true) : OpO K (He.ga K c) (He.ma K (He.ga K c) m) m := by
  obtain ⟨h1, h⟩ := Bool.and_eq_true_iff.mp h
  obtain ⟨h2, h3⟩ := Bool.and_eq_true_iff.mp h
  exact ⟨of_decide_eq_true h1, h2, h3⟩
/-- two instances of C are put together by its own method -/
def rBinO (C : Addr) (sp : Sp) (E : XK) : R2 := fun x y H Q => ∃ a b dx dy fs gs, x = .ref a ∧ y = .ref b ∧ H a = some (.ins C dx fs) ∧ H b = some (.ins C dy gs) ∧ sp [x, y] H Q E
theorem back_of {X : Cx} {pins : List (Addr × Obj)} {σ : L2.St} {Q : VK} {v : Value} {s : Shared} (h : EP X pins σ Q v s) : PySem.W.CmpBack (EP X pins σ Q) v s := by
  have h0 := h
  obtain ⟨w, H', I', rv, q⟩ := h
  cases w <;> first
    | (obtain rfl : v = _ := rv; exact h0)
    | (obtain ⟨t, rfl⟩ := rv; exact h0)
section
variable {X : Cx} {C g : Addr} {CX : CXT} {sp : Sp} {E : XK} {k : Nat}
theorem op_binO {op : Operator} (c : OpO X.K C g (PySem.dunder op.info.2)) (F : FnR X.prog X.w X.K X.mg X.base CX k g sp) (hr : Room k X.A) (hx : Passes CX X E) : OpR X (binaryOp op) (rBinO C sp E) := by
  intro pins s σ H x y v u Q I rx ry h
  obtain ⟨a, b, dx, dy, fs, gs, rfl, rfl, ha, hb, hs⟩ := h
  cases rx
  cases ry
  obtain ⟨ox, od, J, hd⟩ := StX.insC_at I (.inr ⟨dx, fs, ha⟩)
  obtain ⟨ox2, od2, J2, hd2⟩ := StX.insC_at I (.inr ⟨dy, gs, hb⟩)
  obtain ⟨m, hF⟩ := I.fr
  refine PySem.W.binop_K hF I.ok.mod.kin J J2.type c.first c.at_ c.fn ?_
  exact wpAny_mono (wpAny_call (run_fnR (us := [.ref a, .ref b]) (vs := [.ref a, .ref b]) F hr hx I (.cons rfl (.cons rfl .nil)) hs)) (fun v s' hv => back_of hv) fun _ _ z => z
theorem op_cmpO {op : CmpOp} (ho : compareOp op = richCompare op) (c : OpO X.K C g (cmpInfo op).2.1) (F : FnR X.prog X.w X.K X.mg X.base CX k g sp) (hr : Room k X.A) (hx : Passes CX X E) : OpR X (compareOp op) (rBinO C sp E) := by
  intro pins s σ H x y v u Q I rx ry h
  obtain ⟨a, b, dx, dy, fs, gs, rfl, rfl, ha, hb, hs⟩ := h
  cases rx
  cases ry
  rw [ho]
  obtain ⟨ox, od, J, hd⟩ := StX.insC_at I (.inr ⟨dx, fs, ha⟩)
  obtain ⟨ox2, od2, J2, hd2⟩ := StX.insC_at I (.inr ⟨dy, gs, hb⟩)
  obtain ⟨m, hF⟩ := I.fr
  refine PySem.W.cmp_K hr.units0 hF I.ok.mod.kin J J2.type (by simp [PySem.W.notFirst]) c.at_ c.fn ?_
  exact wpAny_mono (wpAny_call (run_fnR (us := [.ref a, .ref b]) (vs := [.ref a, .ref b]) F hr hx I (.cons rfl (.cons rfl .nil)) hs)) (fun v s' hv => back_of hv) fun _ _ z => z
end
def dBinO (f : DSp) (c : Str) (XX : DX) : DR2 := fun x y M Q => (∃ fs, objView M x = some (c, fs)) ∧ (∃ gs, objView M y = some (c, gs)) ∧ upQ f [x, y] M Q XX
section
variable {X : Cx} {G : Lk} {a b : Expr} {da db : DTE} {f : DSp} {XX : DX} {k : Nat} {fa : Addr} {pos : Pos} {c : Str}
theorem le_binO {K : PySem.W.Frag} {ta tb : TE} {E : XK} (la : LE K G ta da) (lb : LE K G tb db) (hl : ∀ F Hb, G.g F Hb → ∀ c fs M, XX c fs M → ClX K F Hb E c fs M) :
    LE K G (tOp (rBinO (He.ga K c) (spOf K f) E) ta tb) (dOp (dBinO f c XX) da db) := by
  refine ⟨fun hq h => la.mono (fun x M1 h1 => lb.mono (fun y M2 h2 => ⟨h2.1, h2.2.1, upQ_mono hq h2.2.2⟩) h1) h, fun {F σ ds Hb H M Q} g O S h => ?_⟩
  refine la.run g O S (la.mono (fun x M1 h1 v Hb1 H1 s1 O1 r1 => ?_) h)
  refine lb.run (G.up g s1) O1 (S.up s1) (lb.mono (fun y M2 h2 w Hb2 H2 s2 O2 r2 => ?_) h1)
  obtain ⟨⟨fs, h3⟩, ⟨gs, h4⟩, h5⟩ := h2
  obtain ⟨p, dx, gs1, rfl, hp, _⟩ := objView_run O2 (r1.up s2) h3
  obtain ⟨q, dy, gs2, rfl, hq, _⟩ := objView_run O2 r2 h4
  exact ⟨p, q, dx, dy, _, _, rfl, rfl, hp, hq, upQ_run (s1.trans s2) O2 (.cons (r1.up s2) (.cons r2 .nil)) (hl _ _ (G.up (G.up g s1) s2)) h5⟩
theorem de_binO {op : Operator} (F : DFn X.prog X.w X.K X.mg X.base k fa [] f) (co : OpO X.K (He.ga X.K c) fa (PySem.dunder op.info.2)) (hr : Room k X.A) (ex : Exw X G XX) (ha : DE X G a da) (hb : DE X G b db) :
    DE X G (.BinOp a op b pos) (dOp (dBinO f c XX) da db) := by
  obtain ⟨ta, pa, la⟩ := ha
  obtain ⟨tb, pb, lb⟩ := hb
  obtain ⟨E, hx, hl⟩ := ex
  obtain ⟨fd, ps, dvs, ds, ok, bd, vd, rd⟩ := F.ex
  have e1 : dvs = [] := by cases rd (fun _ => none); rfl
  subst e1
  have F' : FnR X.prog X.w X.K X.mg X.base (L2N.CX X.prog X.w) k fa (spOf X.K f) := by
    have := ok.raw bd vd
    intro A st s H us vs Q E hr e0 r h
    exact this A st s H us vs Q E hr e0 r (by show spOf _ f (vs ++ []) H Q E; rw [List.append_nil]; exact h)
  exact ⟨_, pe_op (op_binO co F' hr hx) pa pb, le_binO la lb hl⟩
theorem fnR_of {P : Program} {w : World} {K : PySem.W.Frag} {mg : Str → Option Value} {base : Heap} (F : DFn P w K mg base k fa [] f) : FnR P w K mg base (L2N.CX P w) k fa (spOf K f) := by
  obtain ⟨fd, ps, dvs, ds, ok, bd, vd, rd⟩ := F.ex
  have e1 : dvs = [] := by cases rd (fun _ => none); rfl
  subst e1
  have := ok.raw bd vd
  intro A st s H us vs Q E hr e0 r h
  exact this A st s H us vs Q E hr e0 r (by show spOf _ f (vs ++ []) H Q E; rw [List.append_nil]; exact h)
theorem de_eqO (F : DFn X.prog X.w X.K X.mg X.base k fa [] f) (co : OpO X.K (He.ga X.K c) fa "__eq__") (hr : Room k X.A) (ex : Exw X G XX) (ha : DE X G a da) (hb : DE X G b db) (hm : behindInMarks .Eq b = false := by first | exact nomark _ | rfl) :
    DE X G (.Compare a [.Eq] [b] pos) (dOp (dBinO f c XX) da db) := by
  obtain ⟨ta, pa, la⟩ := ha
  obtain ⟨tb, pb, lb⟩ := hb
  obtain ⟨E, hx, hl⟩ := ex
  exact ⟨_, pe_cmpR (op_cmpO rfl co (fnR_of F) hr hx) pa pb hm, le_binO la lb hl⟩
theorem dt_eqO (F : DFn X.prog X.w X.K X.mg X.base k fa [] f) (co : OpO X.K (He.ga X.K c) fa "__eq__") (hr : Room k X.A) (ex : Exw X G XX) (ha : DE X G a da) (hb : DE X G b db) (hm : behindInMarks .Eq b = false := by first | exact nomark _ | rfl) :
    DT X G (.Compare a [.Eq] [b] pos) (dTest (dOp (dBinO f c XX) da db)) := by
  obtain ⟨ta, pa, la⟩ := ha
  obtain ⟨tb, pb, lb⟩ := hb
  obtain ⟨E, hx, hl⟩ := ex
  exact ⟨_, pt_cmpR (op_cmpO rfl co (fnR_of F) hr hx) pa pb hm, lt_test (le_binO la lb hl)⟩
end
/-! ### x in a list or tuple -/
def flatD : Dt → Bool
  | .non => true
  | .bl _ => true
  | .int _ => true
  | .str _ => true
  | _ => false
def anyD (x : Dt) : List Dt → Option Bool
  | [] => some false
  | y :: ys => match scalD y x, anyD x ys with
    | some k, some m => some (k || m)
    | _, _ => none
theorem flat_rep {K : PySem.W.Frag} {H : Hp} {v : V} {x : Dt} (r : Rep K H v x) (h : flatD x = true) : flatV v = true := by
  cases r <;> first
    | rfl
    | cases h
theorem eqV_rep {K : PySem.W.Frag} {H : Hp} {v w : V} {x y : Dt} {k : Bool} (rx : Rep K H v x) (ry : Rep K H w y) (e : scalD x y = some k) : eqV v w = k ∧ flatV v = true := by
  cases rx <;> cases ry <;> first
    | (cases e; done)
    | (cases e; refine ⟨?_, rfl⟩; simp [eqV]; done)
    | (cases e; exact ⟨rfl, rfl⟩)
theorem any_rep {K : PySem.W.Frag} {H : Hp} {v : V} {x : Dt} (rx : Rep K H v x) : ∀ {vs : List V} {ys : List Dt} {k : Bool}, RepL K H vs ys → anyD x ys = some k → inV v vs = k ∧ vs.all flatV = true
  | _, _, _, .nil, e => by cases e; exact ⟨rfl, rfl⟩
  | _, _, k, .cons (v := u) (d := y) (vs := us) (ds := ys) r rs, e => by
    unfold anyD at e
    split at e
    · rename_i k1 m e1 e2
      cases e
      obtain ⟨h1, h2⟩ := eqV_rep r rx e1
      obtain ⟨h3, h4⟩ := any_rep rx rs e2
      refine ⟨?_, ?_⟩
      · show (eqV u v || inV v us) = _
        rw [h1, h3]
      · show (flatV u && us.all flatV) = true
        rw [h2, h4] <;> rfl
    · cases e
def dInLL (f : Bool → Bool) : DR2 := fun x y M Q => match rview M y with
  | some ys => flatD x = true ∧ ∃ k, anyD x ys = some k ∧ Q (.bl (f k)) M
  | none => False
def dInLT (f : Bool → Bool) : DR2 := fun x y M Q => match y with
  | .tup ys => flatD x = true ∧ ∃ k, anyD x ys = some k ∧ Q (.bl (f k)) M
  | _ => False
def dInL (f : Bool → Bool) : DR2 := dEither (dInLL f) (dInLT f)
section
variable {K : PySem.W.Frag}
theorem lr_inLL (neg : Bool) : LR K (rIn K neg) (dInLL fun k => if neg then !k else k) := by
  refine ⟨fun {x y M Q Q'} hq h => ?_, fun {F Hb H M x y v w Q} O rx ry h => ?_⟩
  · unfold dInLL at h ⊢
    split at h
    · obtain ⟨h1, k, h2, h3⟩ := h
      exact ⟨h1, k, h2, hq _ _ h3⟩
    · exact h.elim
  · unfold dInLL at h
    split at h
    · rename_i ys e1
      obtain ⟨h1, k, h2, h3⟩ := h
      obtain ⟨a, vs, rfl, h4, h5⟩ := rview_run O ry e1
      obtain ⟨h6, h7⟩ := any_rep rx h5 h2
      exact ⟨a, vs, rfl, .inl h4, flat_rep rx h1, h7, by rw [h6]; exact h3 _ _ _ (Same.refl _) O .bl⟩
    · exact h.elim
theorem lr_inLT (neg : Bool) : LR K (rIn K neg) (dInLT fun k => if neg then !k else k) := by
  refine ⟨fun {x y M Q Q'} hq h => ?_, fun {F Hb H M x y v w Q} O rx ry h => ?_⟩
  · unfold dInLT at h ⊢
    split at h
    · obtain ⟨h1, k, h2, h3⟩ := h
      exact ⟨h1, k, h2, hq _ _ h3⟩
    · exact h.elim
  · unfold dInLT at h
    split at h
    · rename_i ys
      obtain ⟨h1, k, h2, h3⟩ := h
      cases ry with
      | tup h4 h5 =>
      obtain ⟨h6, h7⟩ := any_rep rx h5 h2
      exact ⟨_, _, rfl, .inr (SqT.up O.same h4), flat_rep rx h1, h7, by rw [h6]; exact h3 _ _ _ (Same.refl _) O .bl⟩
    · exact h.elim
theorem lr_inL (neg : Bool) : LR K (rIn K neg) (dInL fun k => if neg then !k else k) := by
  have h := (lr_inLL (K := K) neg).or (lr_inLT neg)
  refine ⟨h.mono, fun O rx ry z => ?_⟩
  exact (h.run O rx ry z).elim id id
end
end DL
set_option Elab.async false
set_option linter.all false
set_option maxRecDepth 100000
set_option maxHeartbeats 4000000
namespace LK
open PySem PySem.Spec PyProof.Rows L2 DL
def Cs : List Str := ["BadCount", "BadRow", "Mismatch"]
def b_check_count_rows : DX → DTS := fun XX => (dIfS (dOr (dTest (dIsi "bool" (dVar 0))) (dOr (dTest (dOp dLtR (dVar 0) (dVar 1))) (dTest (dOp dGtR (dVar 0) (dVar 2))))) (dRaiseF "BadCount" ["found", "low", "high"] (dCons (dVar 0) (dCons (dVar 1) (dCons (dVar 2) dNil))) XX) dNext)
def f_check_count_rows : DSp := spD 3 3 b_check_count_rows
def b_most_rounds : DX → DTS := fun XX => (dSeq (dDrop (dCall f_check_count_rows [] XX (dCons (dVar 0) (dCons (dC (.int 1)) (dCons (dC (.int (5))) dNil)))))
    (dRet (dOp dIx (dC (.tup [.int (8), .int (8), .int (5), .int (4), .int (3)])) (dOp dSubR (dVar 0) (dC (.int 1))))))
def f_most_rounds : DSp := spD 1 1 b_most_rounds
def b_check_shape : DX → DTS := fun XX => (dDrop (dCall f_check_count_rows [] XX (dCons (dVar 1) (dCons (dC (.int 0)) (dCons (dCall f_most_rounds [] XX (dCons (dVar 0) dNil)) dNil)))))
def f_check_shape : DSp := spD 2 2 b_check_shape
def b_letters : DX → DTS := fun XX => (dSeq (dDrop (dCall f_check_count_rows [] XX (dCons (dVar 0) (dCons (dC (.int 1)) (dCons (dC (.int (5))) dNil)))))
    (dRet (dSl false (dC (.str "01234")) dNoPart (dPart (dVar 0)))))
def f_letters : DSp := spD 1 1 b_letters
def b_next_texts : DX → DTS := fun XX => (dSeq (dAsg (dCall f_letters [] XX (dCons (dVar 1) dNil)) (dName 2))
    (dRet (dLc2 false (dSeqIt (dVar 0)) (dName 3) dYes (dSeqIt (dVar 2)) (dName 4) dYes (dOp (dAddR false) (dVar 3) (dVar 4)) [3, 4] [4])))
def f_next_texts : DSp := spD 2 5 b_next_texts
def b_beginnings_of : DX → DTS := fun XX => (dSeq (dDrop (dCall f_check_shape [] XX (dCons (dVar 1) (dCons (dVar 0) dNil))))
    (dSeq (dAsg (dLst true dNil) (dName 2))
    (dSeq (dAsg (dLst false (dCons (dC (.str "")) dNil)) (dName 3))
    (dSeq (dFor (dRng1 (dCons (dVar 0) dNil)) (dName 4) (dSeq (dDrop (dBM "list" dExtend (dVar 2) (dCons (dVar 3) dNil)))
    (dAsg (dCall f_next_texts [] XX (dCons (dVar 3) (dCons (dVar 1) dNil))) (dName 3))))
    (dRet (dFrz (dVar 2)))))))
def f_beginnings_of : DSp := spD 2 5 b_beginnings_of
def b_check_size : DX → DTS := fun XX => (dIfS (dTest (dOp dNeR (dVar 0) (dVar 1))) (dRaiseF "BadSize" ["found", "due"] (dCons (dVar 0) (dCons (dVar 1) dNil)) XX) dNext)
def f_check_size : DSp := spD 2 2 b_check_size
def b_is_integer_value : DX → DTS := fun XX => (dRet (dAndV (dIsi "int" (dVar 0)) (dNotV (dIsi "bool" (dVar 0)))))
def f_is_integer_value : DSp := spD 1 1 b_is_integer_value
def b_parts_of : DX → DTS := fun XX => (dSeq (dIfS (dTest (dCall f_is_integer_value [] XX (dCons (dVar 0) dNil))) (dRet (dTup (dCons (dVar 0) (dCons (dC (.int 1)) dNil)))) dNext)
    (dSeq (dIfS (dOr (dNot (dTest (dIsi "tuple" (dVar 0)))) (dTest (dOp dNeR (dCB dLen (dCons (dVar 0) dNil)) (dC (.int 2))))) (dRaise0 "BadNumber" XX) dNext)
    (dSeq (dAsg (dVar 0) (dGTup 2 (dGCons (dName 1) (dGCons (dName 2) dGNil))))
    (dSeq (dIfS (dOr (dNot (dTest (dCall f_is_integer_value [] XX (dCons (dVar 1) dNil)))) (dOr (dNot (dTest (dCall f_is_integer_value [] XX (dCons (dVar 2) dNil)))) (dTest (dOp dLtR (dVar 2) (dC (.int 1)))))) (dRaise0 "BadNumber" XX) dNext)
    (dRet (dTup (dCons (dVar 1) (dCons (dVar 2) dNil))))))))
def f_parts_of : DSp := spD 1 3 b_parts_of
def b_common_divisor : DX → DTS := fun XX => (dSeq (dWhile (dTest (dOp dNeR (dVar 1) (dC (.int 0)))) (dPar 0 1 (dCons (dVar 1) (dCons (dOp dModR (dVar 0) (dVar 1)) dNil))))
    (dRet (dVar 0)))
def f_common_divisor : DSp := spD 2 2 b_common_divisor
def b_fraction : DX → DTS := fun XX => (dSeq (dAsg (dCall f_parts_of [] XX (dCons (dVar 0) dNil)) (dGTup 2 (dGCons (dName 2) (dGCons (dName 3) dGNil))))
    (dSeq (dAsg (dCall f_common_divisor [] XX (dCons (dVar 2) (dCons (dVar 3) dNil))) (dName 1))
    (dRet (dTup (dCons (dOp dDivR (dVar 2) (dVar 1)) (dCons (dOp dDivR (dVar 3) (dVar 1)) dNil))))))
def f_fraction : DSp := spD 1 4 b_fraction
def b_share_parts : DX → DTS := fun XX => (dSeq (dDrop (dCall f_check_size [] XX (dCons (dCB dLen (dCons (dVar 1) dNil)) (dCons (dVar 0) dNil))))
    (dRet (dCB dTuple (dCons (dLc false (dSeqIt (dVar 1)) (dName 2) dYes (dCall f_fraction [] X0 (dCons (dVar 2) dNil)) [2]) dNil))))
def f_share_parts : DSp := spD 2 3 b_share_parts
def b_sum_of_two : DX → DTS := fun XX => (dSeq (dAsg (dVar 0) (dGTup 2 (dGCons (dName 6) (dGCons (dName 7) dGNil))))
    (dSeq (dAsg (dVar 1) (dGTup 2 (dGCons (dName 8) (dGCons (dName 9) dGNil))))
    (dSeq (dAsg (dCall f_common_divisor [] XX (dCons (dVar 7) (dCons (dVar 9) dNil))) (dName 2))
    (dSeq (dIfS (dTest (dOp dEqR (dVar 2) (dC (.int 1)))) (dRet (dTup (dCons (dOp (dAddR false) (dOp (dMulR false) (dVar 6) (dVar 9)) (dOp (dMulR false) (dVar 8) (dVar 7))) (dCons (dOp (dMulR false) (dVar 7) (dVar 9)) dNil)))) dNext)
    (dSeq (dAsg (dOp dDivR (dVar 7) (dVar 2)) (dName 3))
    (dSeq (dAsg (dOp (dAddR false) (dOp (dMulR false) (dVar 6) (dOp dDivR (dVar 9) (dVar 2))) (dOp (dMulR false) (dVar 8) (dVar 3))) (dName 4))
    (dSeq (dAsg (dCall f_common_divisor [] XX (dCons (dVar 4) (dCons (dVar 2) dNil))) (dName 5))
    (dRet (dTup (dCons (dOp dDivR (dVar 4) (dVar 5)) (dCons (dOp (dMulR false) (dVar 3) (dOp dDivR (dVar 9) (dVar 5))) dNil)))))))))))
def f_sum_of_two : DSp := spD 2 10 b_sum_of_two
def b_total : DX → DTS := fun XX => (dSeq (dAsg (dTup (dCons (dC (.int 0)) (dCons (dC (.int 1)) dNil))) (dName 1))
    (dSeq (dFor (dSeqIt (dVar 0)) (dName 2) (dAsg (dCall f_sum_of_two [] XX (dCons (dVar 1) (dCons (dCall f_fraction [] XX (dCons (dVar 2) dNil)) dNil))) (dName 1)))
    (dRet (dVar 1))))
def f_total : DSp := spD 1 3 b_total
def b_is_sharing : DX → DTS := fun XX => (dSeq (dFor (dSeqIt (dVar 0)) (dName 1) (dIfS (dTest (dOp dLtR (dOp dIx (dVar 1) (dC (.int 0))) (dC (.int 0)))) (dRet (dC (.bl false))) dNext))
    (dRet (dOp dEqR (dCall f_total [] XX (dCons (dVar 0) dNil)) (dC (.tup [.int (1), .int (1)])))))
def f_is_sharing : DSp := spD 1 2 b_is_sharing
def b_sharing_at : DX → DTS := fun XX => (dSeq (dAsg (dCall f_share_parts [] XX (dCons (dVar 0) (dCons (dVar 1) dNil))) (dName 3))
    (dSeq (dIfS (dNot (dTest (dCall f_is_sharing [] XX (dCons (dVar 3) dNil)))) (dRaiseF "BadShare" ["at"] (dCons (dVar 2) dNil) XX) dNext)
    (dRet (dVar 3))))
def f_sharing_at : DSp := spD 3 4 b_sharing_at
def b_Plan___init__ : DX → DTS := fun XX => (dSeq (dAsg (dCallK f_beginnings_of 1 1 XX (dCons (dVar 2) dNil) (dCons (dVar 1) dNil)) (dName 4))
    (dSeq (dDrop (dCall f_check_size [] XX (dCons (dCB dLen (dCons (dVar 3) dNil)) (dCons (dCB dLen (dCons (dVar 4) dNil)) dNil))))
    (dSeq (dAsg (dLc false (dZip (dCons (dVar 3) (dCons (dVar 4) dNil))) (dGTup 2 (dGCons (dName 6) (dGCons (dName 7) dGNil))) dYes (dCall f_sharing_at [] X0 (dCons (dVar 1) (dCons (dVar 6) (dCons (dVar 7) dNil)))) [6, 7]) (dName 5))
    (dSeq (dSetF "Plan" "held_width" (dVar 0) (dVar 1))
    (dSeq (dSetF "Plan" "held_rounds" (dVar 0) (dVar 2))
    (dSeq (dSetF "Plan" "held_shares" (dVar 0) (dCB dTuple (dCons (dVar 5) dNil)))
    (dSetF "Plan" "held_places" (dVar 0) (dDc (dZip (dCons (dVar 4) (dCons (dVar 5) dNil))) (dGTup 2 (dGCons (dName 7) (dGCons (dName 6) dGNil))) (dVar 7) (dVar 6) [6, 7]))))))))
def f_Plan___init__ : DSp := spD 4 8 b_Plan___init__
def b_law_store : DX → DTS := fun XX => (dRet (dOp (dAddR true) (dLst false (dCons (dC (.int 5)) (dCons (dC (.int 0)) (dCons (dOp (dAddR false) (dC (.int 1)) (dCB dLen (dCons (dVar 0) dNil))) (dCons (dC (.int 0)) (dCons (dC (.int 0)) dNil)))))) (dLc false (dSeqIt (dVar 0)) (dName 1) dYes (dCB dInt (dCons (dVar 1) dNil)) [1])))
def f_law_store : DSp := spD 1 2 b_law_store
def b_law_mixed : DX → DTS := fun XX => (dSeq (dAsg (dC (.int 2305843009213693951)) (dName 1))
    (dSeq (dAsg (dOp (dAddR false) (dOp dIx (dVar 0) (dC (.int 3))) (dC (.int 1))) (dSub (dVar 0) (dC (.int 3))))
    (dSeq (dAsg (dOp dModR (dCB dInt (dCons (dOp (dAddR false) (dOp (dAddR false) (dOp (dMulR false) (dOp dIx (dVar 0) (dC (.int 2))) (dC (.int 68718952447))) (dOp (dMulR false) (dOp dIx (dVar 0) (dC (.int 3))) (dC (.int 1000003)))) (dC (.int 97))) dNil)) (dVar 1)) (dSub (dVar 0) (dC (.int 2))))
    (dSeq (dAsg (dOp dModR (dCB dInt (dCons (dOp (dAddR false) (dOp (dMulR false) (dOp dIx (dVar 0) (dC (.int 2))) (dOp dIx (dVar 0) (dC (.int 2)))) (dOp (dMulR false) (dOp dIx (dVar 0) (dC (.int 3))) (dC (.int 1048583)))) dNil)) (dC (.int 2305843009213693921))) (dName 2))
    (dRet (dOp dModR (dCB dInt (dCons (dOp (dAddR false) (dOp (dAddR false) (dOp (dMulR false) (dVar 2) (dC (.int 6700417))) (dOp dDivR (dVar 2) (dC (.int 30103)))) (dC (.int 7))) dNil)) (dVar 1)))))))
def f_law_mixed : DSp := spD 1 3 b_law_mixed
def b_law_take : DX → DTS := fun XX => (dSeq (dIfS (dTest (dOp dLtR (dVar 1) (dC (.int 2)))) (dRet (dC (.int 0))) dNext)
    (dSeq (dIfS (dAnd (dTest (dOp dEqR (dOp dIx (dVar 0) (dC (.int 1))) (dC (.int 0)))) (dAnd (dTest (dOp dEqR (dOp dIx (dVar 0) (dC (.int 4))) (dC (.int 0)))) (dTest (dOp dLtR (dOp dIx (dVar 0) (dC (.int 0))) (dCB dLen (dCons (dVar 0) dNil)))))) (dSeq (dAsg (dCB dInt (dCons (dOp dIx (dVar 0) (dOp dIx (dVar 0) (dC (.int 0)))) dNil)) (dName 2))
    (dSeq (dAsg (dOp (dAddR false) (dOp dIx (dVar 0) (dC (.int 0))) (dC (.int 1))) (dSub (dVar 0) (dC (.int 0))))
    (dSeq (dAsg (dOp dModR (dCB dInt (dCons (dOp (dAddR false) (dOp (dAddR false) (dOp dIx (dVar 0) (dC (.int 2))) (dOp (dMulR false) (dVar 2) (dC (.int 5)))) (dC (.int 1))) dNil)) (dC (.int 2305843009213693951))) (dSub (dVar 0) (dC (.int 2))))
    (dIfS (dOr (dTest (dOp dGeR (dVar 2) (dOp dPowR (dC (.int 10)) (dC (.int 18))))) (dTest (dOp dLeR (dVar 2) (dOp dSubR (dC (.int 0)) (dOp dPowR (dC (.int 10)) (dC (.int 18))))))) (dAsg (dCB dAbs (dCons (dVar 2) dNil)) (dSub (dVar 0) (dC (.int 1)))) (dAsg (dC (.int 2)) (dSub (dVar 0) (dC (.int 4)))))))) dNext)
    (dSeq (dIfS (dTest (dOp dGtR (dOp dIx (dVar 0) (dC (.int 1))) (dC (.int 0)))) (dSeq (dAsg (dOp dModR (dCB dInt (dCons (dOp dIx (dVar 0) (dC (.int 1))) dNil)) (dVar 1)) (dName 3))
    (dSeq (dAsg (dOp dDivR (dOp dIx (dVar 0) (dC (.int 1))) (dVar 1)) (dSub (dVar 0) (dC (.int 1))))
    (dRet (dVar 3)))) dNext)
    (dSeq (dIfS (dTest (dOp dGtR (dOp dIx (dVar 0) (dC (.int 4))) (dC (.int 0)))) (dAsg (dOp dSubR (dOp dIx (dVar 0) (dC (.int 4))) (dC (.int 1))) (dSub (dVar 0) (dC (.int 4)))) dNext)
    (dRet (dOp dModR (dCB dInt (dCons (dCall f_law_mixed [] XX (dCons (dVar 0) dNil)) dNil)) (dVar 1)))))))
def f_law_take : DSp := spD 2 4 b_law_take
def b_law_edge : DX → DTS := fun XX => (dSeq (dIfS (dTest (dOp dLtR (dVar 1) (dC (.int 2)))) (dRet (dC (.int 0))) dNext)
    (dSeq (dAsg (dCall f_law_take [] XX (dCons (dVar 0) (dCons (dC (.int 6)) dNil))) (dName 2))
    (dSeq (dIfS (dTest (dOp dEqR (dVar 2) (dC (.int 0)))) (dRet (dC (.int 0))) dNext)
    (dSeq (dIfS (dTest (dOp dEqR (dVar 2) (dC (.int 1)))) (dRet (dOp dSubR (dVar 1) (dC (.int 1)))) dNext)
    (dRet (dCall f_law_take [] XX (dCons (dVar 0) (dCons (dVar 1) dNil))))))))
def f_law_edge : DSp := spD 2 3 b_law_edge
def b_law_most : DX → DTS := fun XX => (dRet (dOp dIx (dLst false (dCons (dC (.int 8)) (dCons (dC (.int 8)) (dCons (dC (.int 5)) (dCons (dC (.int 4)) (dCons (dC (.int 3)) dNil)))))) (dOp dSubR (dVar 0) (dC (.int 1)))))
def f_law_most : DSp := spD 1 1 b_law_most
def b_law_power : DX → DTS := fun XX => (dSeq (dAsg (dC (.int 1)) (dName 2))
    (dSeq (dFor (dRng1 (dCons (dVar 1) dNil)) (dName 3) (dAsg (dOp (dMulR false) (dVar 2) (dVar 0)) (dName 2)))
    (dRet (dVar 2))))
def f_law_power : DSp := spD 2 4 b_law_power
def b_law_rounds : DX → DTS := fun XX => (dSeq (dAsg (dOp dIx (dLst false (dCons (dC (.int 4)) (dCons (dC (.int 4)) (dCons (dC (.int 3)) (dCons (dC (.int 2)) (dCons (dC (.int 2)) dNil)))))) (dOp dSubR (dVar 1) (dC (.int 1)))) (dName 3))
    (dSeq (dIfS (dTest (dOp dEqR (dCall f_law_take [] XX (dCons (dVar 0) (dCons (dC (.int 8)) dNil))) (dC (.int 0)))) (dAsg (dCall f_law_most [] XX (dCons (dVar 1) dNil)) (dName 3)) dNext)
    (dSeq (dAsg (dCall f_law_edge [] XX (dCons (dVar 0) (dCons (dOp (dAddR false) (dVar 3) (dC (.int 1))) dNil))) (dName 4))
    (dSeq (dFor (dRng1 (dCons (dC (.int 8)) dNil)) (dName 5) (dIfS (dTest (dOp dGtR (dCall f_law_power [] XX (dCons (dVar 1) (dCons (dVar 4) dNil))) (dVar 2))) (dAsg (dOp dSubR (dVar 4) (dC (.int 1))) (dName 4)) dNext))
    (dRet (dVar 4))))))
def f_law_rounds : DSp := spD 3 6 b_law_rounds
def b_law_shape : DX → DTS := fun XX => (dSeq (dAsg (dOp dIx (dLst false (dCons (dC (.int 2)) (dCons (dC (.int 2)) (dCons (dC (.int 2)) (dCons (dC (.int 2)) (dCons (dC (.int 3)) (dCons (dC (.int 3)) (dCons (dC (.int 1)) (dCons (dC (.int 4)) (dCons (dC (.int 5)) (dCons (dC (.int 2)) dNil))))))))))) (dCall f_law_take [] XX (dCons (dVar 0) (dCons (dC (.int 10)) dNil)))) (dName 2))
    (dRet (dTup (dCons (dVar 2) (dCons (dCall f_law_rounds [] XX (dCons (dVar 0) (dCons (dVar 2) (dCons (dVar 1) dNil)))) dNil)))))
def f_law_shape : DSp := spD 2 3 b_law_shape
def b_law_lengths : DX → DTS := fun XX => (dSeq (dAsg (dLst true dNil) (dName 2))
    (dSeq (dAsg (dVar 1) (dName 3))
    (dSeq (dFor (dRng1 (dCons (dC (.int 8)) dNil)) (dName 4) (dIfS (dTest (dOp dGtR (dVar 3) (dC (.int 0)))) (dSeq (dAsg (dOp (dAddR false) (dC (.int 1)) (dCall f_law_edge [] XX (dCons (dVar 0) (dCons (dVar 3) dNil)))) (dName 5))
    (dSeq (dDrop (dBM "list" dAppend (dVar 2) (dCons (dVar 5) dNil)))
    (dAsg (dOp dSubR (dVar 3) (dVar 5)) (dName 3)))) dNext))
    (dSeq (dFor (dRng1 (dCons (dCall f_law_take [] XX (dCons (dVar 0) (dCons (dC (.int 5)) dNil))) dNil)) (dName 4) (dDrop (dBM "list" dInsert (dVar 2) (dCons (dCall f_law_take [] XX (dCons (dVar 0) (dCons (dOp (dAddR false) (dCB dLen (dCons (dVar 2) dNil)) (dC (.int 1))) dNil))) (dCons (dC (.int 0)) dNil)))))
    (dRet (dFrz (dVar 2)))))))
def f_law_lengths : DSp := spD 2 6 b_law_lengths
def b_law_gcd : DX → DTS := fun XX => (dSeq (dAsg (dCB dAbs (dCons (dVar 0) dNil)) (dName 0))
    (dSeq (dAsg (dCB dAbs (dCons (dVar 1) dNil)) (dName 1))
    (dSeq (dWhile (dTest (dOp dGtR (dVar 1) (dC (.int 0)))) (dSeq (dAsg (dOp dModR (dCB dInt (dCons (dVar 0) dNil)) (dVar 1)) (dName 2))
    (dSeq (dAsg (dVar 1) (dName 0))
    (dAsg (dVar 2) (dName 1)))))
    (dRet (dVar 0)))))
def f_law_gcd : DSp := spD 2 3 b_law_gcd
def b_law_low : DX → DTS := fun XX => (dSeq (dIfS (dTest (dOp dEqR (dVar 1) (dC (.int 0)))) (dRet (dTup (dCons (dVar 0) (dCons (dC (.int 0)) dNil)))) dNext)
    (dSeq (dIfS (dTest (dOp dLtR (dVar 1) (dC (.int 0)))) (dSeq (dAsg (dOp dSubR (dC (.int 0)) (dVar 0)) (dName 0))
    (dAsg (dOp dSubR (dC (.int 0)) (dVar 1)) (dName 1))) dNext)
    (dSeq (dAsg (dCall f_law_gcd [] XX (dCons (dVar 0) (dCons (dVar 1) dNil))) (dName 2))
    (dRet (dTup (dCons (dOp dDivR (dVar 0) (dVar 2)) (dCons (dOp dDivR (dVar 1) (dVar 2)) dNil)))))))
def f_law_low : DSp := spD 2 3 b_law_low
def b_law_dealt : DX → DTS := fun XX => (dSeq (dAsg (dCall f_law_take [] XX (dCons (dVar 0) (dCons (dC (.int 4)) dNil))) (dName 2))
    (dSeq (dAsg (dLc true (dRng1 (dCons (dVar 1) dNil)) (dName 6) dYes (dCall f_law_take [] X0 (dCons (dVar 0) (dCons (dC (.int 7)) dNil))) [6]) (dName 3))
    (dSeq (dIfS (dTest (dOp dLtR (dVar 2) (dC (.int 2)))) (dAsg (dLc true (dRng1 (dCons (dVar 1) dNil)) (dName 6) dYes (dVar 2) [6]) (dName 3)) dNext)
    (dSeq (dAsg (dCall f_law_take [] XX (dCons (dVar 0) (dCons (dVar 1) dNil))) (dName 4))
    (dSeq (dAsg (dOp (dAddR false) (dOp dIx (dVar 3) (dVar 4)) (dCB dInt (dCons (dOp dNeR (dVar 2) (dC (.int 1))) dNil))) (dSub (dVar 3) (dVar 4)))
    (dSeq (dAsg (dCB dSumA (dCons (dVar 3) dNil)) (dName 5))
    (dRet (dLc false (dSeqIt (dVar 3)) (dName 7) dYes (dCall f_law_low [] X0 (dCons (dVar 7) (dCons (dVar 5) dNil))) [7]))))))))
def f_law_dealt : DSp := spD 2 8 b_law_dealt
def b_law_texts_b : DX → DTS := fun XX => (dSeq (dAsg (dLst true (dCons (dC (.str "")) dNil)) (dName 2))
    (dSeq (dFor (dRng1 (dCons (dVar 1) dNil)) (dName 3) (dSeq (dAsg (dLst true dNil) (dName 4))
    (dSeq (dFor (dSeqIt (dCB (dList false) (dCons (dVar 2) dNil))) (dName 5) (dFor (dRng1 (dCons (dVar 0) dNil)) (dName 6) (dDrop (dBM "list" dAppend (dVar 4) (dCons (dOp (dAddR false) (dVar 5) (dCB dStr (dCons (dVar 6) dNil))) dNil)))))
    (dAsg (dVar 4) (dName 2)))))
    (dRet (dVar 2))))
def f_law_texts_b : DSp := spD 2 7 b_law_texts_b
def b_law_inner : DX → DTS := fun XX => (dSeq (dAsg (dLst false dNil) (dName 2))
    (dSeq (dFor (dRng1 (dCons (dVar 1) dNil)) (dName 3) (dAsg (dOp (dAddR false) (dVar 2) (dCall f_law_texts_b [] XX (dCons (dVar 0) (dCons (dVar 3) dNil)))) (dName 2)))
    (dRet (dVar 2))))
def f_law_inner : DSp := spD 2 4 b_law_inner
def b_law_dealt_all : DX → DTS := fun XX => (dSeq (dAsg (dCall f_law_dealt [] XX (dCons (dVar 0) (dCons (dVar 1) dNil))) (dName 3))
    (dSeq (dIfS (dTest (dOp dEqR (dCall f_law_take [] XX (dCons (dVar 0) (dCons (dC (.int 5)) dNil))) (dC (.int 0)))) (dRet (dLc false (dSeqIt (dCall f_law_inner [] XX (dCons (dVar 1) (dCons (dVar 2) dNil)))) (dName 4) dYes (dCB (dList false) (dCons (dVar 3) dNil)) [4])) dNext)
    (dRet (dLc false (dSeqIt (dCall f_law_inner [] XX (dCons (dVar 1) (dCons (dVar 2) dNil)))) (dName 4) dYes (dCall f_law_dealt [] X0 (dCons (dVar 0) (dCons (dVar 1) dNil))) [4]))))
def f_law_dealt_all : DSp := spD 3 5 b_law_dealt_all
def b_law_dress : DX → DTS := fun XX => (dSeq (dAsg (dCall f_law_take [] XX (dCons (dVar 0) (dCons (dC (.int 4)) dNil))) (dName 2))
    (dSeq (dIfS (dAnd (dTest (dOp dLtR (dVar 2) (dC (.int 2)))) (dTest (dOp dEqR (dOp dIx (dVar 1) (dC (.int 1))) (dC (.int 1))))) (dRet (dOp dIx (dVar 1) (dC (.int 0)))) dNext)
    (dSeq (dIfS (dAnd (dTest (dOp dGtR (dVar 2) (dC (.int 0)))) (dAnd (dTest (dOp dLtR (dVar 2) (dC (.int 3)))) (dAnd (dTest (dOp dLtR (dCB dAbs (dCons (dOp dIx (dVar 1) (dC (.int 0))) dNil)) (dOp dPowR (dC (.int 10)) (dC (.int 39))))) (dTest (dOp dLtR (dOp dIx (dVar 1) (dC (.int 1))) (dOp dPowR (dC (.int 10)) (dC (.int 39)))))))) (dSeq (dAsg (dOp (dAddR false) (dC (.int 2)) (dCall f_law_take [] XX (dCons (dVar 0) (dCons (dC (.int 3)) dNil)))) (dName 3))
    (dRet (dTup (dCons (dOp (dMulR false) (dOp dIx (dVar 1) (dC (.int 0))) (dVar 3)) (dCons (dOp (dMulR false) (dOp dIx (dVar 1) (dC (.int 1))) (dVar 3)) dNil))))) dNext)
    (dRet (dTup (dCons (dOp dIx (dVar 1) (dC (.int 0))) (dCons (dOp dIx (dVar 1) (dC (.int 1))) dNil)))))))
def f_law_dress : DSp := spD 2 4 b_law_dress
def b_law_dressed : DX → DTS := fun XX => (dRet (dLc false (dSeqIt (dVar 1)) (dName 2) dYes (dCall f_law_dress [] X0 (dCons (dVar 0) (dCons (dVar 2) dNil))) [2]))
def f_law_dressed : DSp := spD 2 3 b_law_dressed
def b_law_passed : DX → DTS := fun XX => (dRet (dLc false (dSeqIt (dVar 1)) (dName 2) dYes (dCall f_law_dressed [] X0 (dCons (dVar 0) (dCons (dVar 2) dNil))) [2]))
def f_law_passed : DSp := spD 2 3 b_law_passed
def b_Plan_shares : DX → DTS := fun XX => (dRet (dCB (dList true) (dCons (dFld "Plan" "held_shares" (dVar 0)) dNil)))
def f_Plan_shares : DSp := spD 1 1 b_Plan_shares
def b_check_count : DX → DTS := fun XX => (dSeq (dIfS (dOr (dTest (dIsi "bool" (dVar 0))) (dOr (dTest (dOp dLtR (dVar 0) (dVar 1))) (dTest (dOp dGtR (dVar 0) (dVar 2))))) (dRaiseF "BadCount" ["found", "low", "high"] (dCons (dVar 0) (dCons (dVar 1) (dCons (dVar 2) dNil))) XX) dNext)
    (dRet (dVar 0)))
def f_check_count : DSp := spD 3 3 b_check_count
def b_check_lengths : DX → DTS := fun XX => (dSeq (dFor (dSeqIt (dVar 0)) (dName 2) (dDrop (dCall f_check_count [] XX (dCons (dVar 2) (dCons (dC (.int 0)) (dCons (dC (.int (8))) dNil))))))
    (dIfS (dTest (dOp dNeR (dCB dSumA (dCons (dVar 0) dNil)) (dVar 1))) (dRaise0 "Mismatch" XX) dNext))
def f_check_lengths : DSp := spD 2 3 b_check_lengths
def b_Plan_rounds : DX → DTS := fun XX => (dRet (dFld "Plan" "held_rounds" (dVar 0)))
def f_Plan_rounds : DSp := spD 1 1 b_Plan_rounds
def b_stretch_starts : DX → DTS := fun XX => (dSeq (dAsg (dOp (dMulR true) (dLst false (dCons (dC (.int 0)) dNil)) (dVar 1)) (dName 2))
    (dSeq (dAsg (dC (.int 0)) (dName 3))
    (dSeq (dFor (dSeqIt (dVar 0)) (dName 4) (dSeq (dAsg (dOp (dAddR false) (dVar 3) (dVar 4)) (dName 3))
    (dFor (dRng2 (dCons (dVar 3) (dCons (dVar 1) dNil))) (dName 5) (dAsg (dVar 3) (dSub (dVar 2) (dVar 5))))))
    (dRet (dVar 2)))))
def f_stretch_starts : DSp := spD 2 6 b_stretch_starts
def b_Plan___call__ : DX → DTS := fun XX => (dSeq (dIfS (dTest (dInD not (dVar 1) (dFld "Plan" "held_places" (dVar 0)))) (dRaiseF "BadRow" ["found"] (dCons (dVar 1) dNil) XX) dNext)
    (dRet (dDGet (dFld "Plan" "held_places" (dVar 0)) (dVar 1))))
def f_Plan___call__ : DSp := spD 2 2 b_Plan___call__
def b_Plan_width : DX → DTS := fun XX => (dRet (dFld "Plan" "held_width" (dVar 0)))
def f_Plan_width : DSp := spD 1 1 b_Plan_width
def b_anew : DX → DTS := fun XX => (dSeq (dDrop (dCall f_check_lengths [] XX (dCons (dVar 1) (dCons (dProp f_Plan_rounds "Plan" (dVar 0)) dNil))))
    (dSeq (dAsg (dCall f_stretch_starts [] XX (dCons (dVar 1) (dCons (dProp f_Plan_rounds "Plan" (dVar 0)) dNil))) (dName 2))
    (dSeq (dAsg (dLc false (dSeqIt (dCallK f_beginnings_of 1 1 XX (dCons (dProp f_Plan_rounds "Plan" (dVar 0)) dNil) (dCons (dProp f_Plan_width "Plan" (dVar 0)) dNil))) (dName 4) dYes (dCallO f_Plan___call__ "Plan" X0 (dVar 0) (dCons (dSl false (dVar 4) (dPart (dOp dIx (dVar 2) (dCB dLen (dCons (dVar 4) dNil)))) dNoPart) dNil)) [4]) (dName 3))
    (dRet (dMake false "Plan" f_Plan___init__ XX (dCons (dProp f_Plan_width "Plan" (dVar 0)) (dCons (dProp f_Plan_rounds "Plan" (dVar 0)) (dCons (dVar 3) dNil))))))))
def f_anew : DSp := spD 2 5 b_anew
def b_law_same (f : DSp) : DX → DTS := fun XX => (dSeq (dIfS (dTest (dOp dIsN (dVar 1) (dC .non))) (dRet (dOp dIsN (dVar 0) (dC .non))) dNext)
    (dSeq (dIfS (dTest (dIsi "bool" (dVar 1))) (dRet (dAndV (dIsi "bool" (dVar 0)) (dOp dEqR (dVar 0) (dVar 1)))) dNext)
    (dSeq (dIfS (dTest (dIsi "int" (dVar 1))) (dRet (dAndV (dIsi "int" (dVar 0)) (dAndV (dNotV (dIsi "bool" (dVar 0))) (dOp dEqR (dVar 0) (dVar 1))))) dNext)
    (dSeq (dIfS (dTest (dIsi "str" (dVar 1))) (dRet (dAndV (dIsi "str" (dVar 0)) (dOp dEqR (dVar 0) (dVar 1)))) dNext)
    (dSeq (dIfS (dTest (dIsi "tuple" (dVar 1))) (dIfS (dNot (dTest (dIsi "tuple" (dVar 0)))) (dRet (dC (.bl false))) dNext) (dIfS (dNot (dTest (dIsi "list" (dVar 0)))) (dRet (dC (.bl false))) dNext))
    (dSeq (dIfS (dTest (dOp dNeR (dCB dLen (dCons (dVar 0) dNil)) (dCB dLen (dCons (dVar 1) dNil)))) (dRet (dC (.bl false))) dNext)
    (dSeq (dFor (dRng1 (dCons (dCB dLen (dCons (dVar 1) dNil)) dNil)) (dName 2) (dIfS (dNot (dTest (dCall f [] X0 (dCons (dOp dIx (dVar 0) (dVar 2)) (dCons (dOp dIx (dVar 1) (dVar 2)) dNil))))) (dRet (dC (.bl false))) dNext))
    (dRet (dC (.bl true))))))))))
def f_law_same : Nat → DSp
  | 0 => spD 2 3 (fun _ => dNever)
  | m + 1 => spD 2 3 (b_law_same (f_law_same m))
def b_law_free : DX → DTS := fun XX => (dSeq (dAsg (dC (.str "")) (dName 3))
    (dSeq (dFor (dRng1 (dCons (dVar 2) dNil)) (dName 4) (dAsg (dOp (dAddR false) (dVar 3) (dOp dIx (dVar 1) (dCall f_law_take [] XX (dCons (dVar 0) (dCons (dCB dLen (dCons (dVar 1) dNil)) dNil))))) (dName 3)))
    (dRet (dVar 3))))
def f_law_free : DSp := spD 3 5 b_law_free
def b_law_told_shares : DX → DTS := fun XX => (dRet (dLc false (dSeqIt (dVar 0)) (dName 1) dYes (dCB dTuple (dCons (dVar 1) dNil)) [1]))
def f_law_told_shares : DSp := spD 1 2 b_law_told_shares
def b_law_is_plan : DX → DTS := fun XX => (dSeq (dIfS (dOr (dNot (dTest (dCall (f_law_same 5) [] XX (dCons (dProp f_Plan_width "Plan" (dVar 0)) (dCons (dVar 1) dNil))))) (dNot (dTest (dCall (f_law_same 5) [] XX (dCons (dProp f_Plan_rounds "Plan" (dVar 0)) (dCons (dVar 2) dNil)))))) (dRet (dC (.bl false))) dNext)
    (dRet (dCall (f_law_same 5) [] XX (dCons (dProp f_Plan_shares "Plan" (dVar 0)) (dCons (dCall f_law_told_shares [] XX (dCons (dVar 3) dNil)) dNil)))))
def f_law_is_plan : DSp := spD 4 4 b_law_is_plan
def b_law_index : DX → DTS := fun XX => (dSeq (dAsg (dC (.int 0)) (dName 2))
    (dSeq (dFor (dSeqIt (dVar 1)) (dName 3) (dAsg (dOp (dAddR false) (dOp (dAddR false) (dOp (dMulR false) (dVar 2) (dVar 0)) (dC (.int 1))) (dCB dInt (dCons (dVar 3) dNil))) (dName 2)))
    (dRet (dVar 2))))
def f_law_index : DSp := spD 2 4 b_law_index
def b_law_cut : DX → DTS := fun XX => (dSeq (dAsg (dLst true dNil) (dName 2))
    (dSeq (dAsg (dC (.int 0)) (dName 3))
    (dSeq (dFor (dSeqIt (dVar 1)) (dName 4) (dSeq (dDrop (dBM "list" dAppend (dVar 2) (dCons (dSl false (dVar 0) (dPart (dVar 3)) (dPart (dOp (dAddR false) (dVar 3) (dVar 4)))) dNil)))
    (dAsg (dOp (dAddR false) (dVar 3) (dVar 4)) (dName 3))))
    (dRet (dFrz (dVar 2))))))
def f_law_cut : DSp := spD 2 5 b_law_cut
def b_has_only : DX → DTS := fun XX => (dSeq (dFor (dSeqIt (dVar 0)) (dName 2) (dIfS (dTest (dOp (dInS not) (dVar 2) (dVar 1))) (dRet (dC (.bl false))) dNext))
    (dRet (dC (.bl true))))
def f_has_only : DSp := spD 2 3 b_has_only
def b_is_row : DX → DTS := fun XX => (dSeq (dDrop (dCall f_check_shape [] XX (dCons (dVar 2) (dCons (dVar 1) dNil))))
    (dRet (dAndV (dOp dEqR (dCB dLen (dCons (dVar 0) dNil)) (dVar 1)) (dCall f_has_only [] XX (dCons (dVar 0) (dCons (dCall f_letters [] XX (dCons (dVar 2) dNil)) dNil))))))
def f_is_row : DSp := spD 3 3 b_is_row
def b_check_row : DX → DTS := fun XX => (dIfS (dNot (dTest (dCallK f_is_row 2 1 XX (dCons (dVar 1) (dCons (dProp f_Plan_rounds "Plan" (dVar 0)) dNil)) (dCons (dProp f_Plan_width "Plan" (dVar 0)) dNil)))) (dRaiseF "BadRow" ["found"] (dCons (dVar 1) dNil) XX) dNext)
def f_check_row : DSp := spD 2 2 b_check_row
def b_opposite : DX → DTS := fun XX => (dRet (dTup (dCons (dNeg (dOp dIx (dVar 0) (dC (.int 0)))) (dCons (dOp dIx (dVar 0) (dC (.int 1))) dNil))))
def f_opposite : DSp := spD 1 1 b_opposite
def b_sub : DX → DTS := fun XX => (dRet (dCall f_sum_of_two [] XX (dCons (dCall f_fraction [] XX (dCons (dVar 0) dNil)) (dCons (dCall f_opposite [] XX (dCons (dCall f_fraction [] XX (dCons (dVar 1) dNil)) dNil)) dNil))))
def f_sub : DSp := spD 2 2 b_sub
def b_shares_on : DX → DTS := fun XX => (dRet (dLc false (dEnumS (dCons (dVar 1) dNil)) (dGTup 2 (dGCons (dName 2) (dGCons (dName 3) dGNil))) dYes (dOp dIx (dCallO f_Plan___call__ "Plan" X0 (dVar 0) (dCons (dSl false (dVar 1) dNoPart (dPart (dVar 2))) dNil)) (dCB dInt (dCons (dVar 3) dNil))) [2, 3]))
def f_shares_on : DSp := spD 2 4 b_shares_on
def b_miss_steps : DX → DTS := fun XX => (dSeq (dDrop (dCall f_check_row [] XX (dCons (dVar 0) (dCons (dVar 1) dNil))))
    (dRet (dLc false (dSeqIt (dCall f_shares_on [] XX (dCons (dVar 0) (dCons (dVar 1) dNil)))) (dName 2) dYes (dCall f_sub [] X0 (dCons (dC (.int 1)) (dCons (dVar 2) dNil))) [2])))
def f_miss_steps : DSp := spD 2 3 b_miss_steps
def b_stretch_misses : DX → DTS := fun XX => (dSeq (dAsg (dCall f_miss_steps [] XX (dCons (dVar 0) (dCons (dVar 1) dNil))) (dName 3))
    (dSeq (dDrop (dCall f_check_lengths [] XX (dCons (dVar 2) (dCons (dProp f_Plan_rounds "Plan" (dVar 0)) dNil))))
    (dSeq (dAsg (dLst true dNil) (dName 4))
    (dSeq (dAsg (dC (.int 0)) (dName 5))
    (dSeq (dFor (dSeqIt (dVar 2)) (dName 6) (dSeq (dDrop (dBM "list" dAppend (dVar 4) (dCons (dCall f_total [] XX (dCons (dSl false (dVar 3) (dPart (dVar 5)) (dPart (dOp (dAddR false) (dVar 5) (dVar 6)))) dNil)) dNil)))
    (dAsg (dOp (dAddR false) (dVar 5) (dVar 6)) (dName 5))))
    (dRet (dVar 4)))))))
def f_stretch_misses : DSp := spD 3 7 b_stretch_misses
def b_law_plus : DX → DTS := fun XX => (dRet (dCall f_law_low [] XX (dCons (dOp (dAddR false) (dOp (dMulR false) (dOp dIx (dVar 0) (dC (.int 0))) (dOp dIx (dVar 1) (dC (.int 1)))) (dOp (dMulR false) (dOp dIx (dVar 1) (dC (.int 0))) (dOp dIx (dVar 0) (dC (.int 1))))) (dCons (dOp (dMulR false) (dOp dIx (dVar 0) (dC (.int 1))) (dOp dIx (dVar 1) (dC (.int 1)))) dNil))))
def f_law_plus : DSp := spD 2 2 b_law_plus
def b_law_minus : DX → DTS := fun XX => (dRet (dCall f_law_low [] XX (dCons (dOp dSubR (dOp (dMulR false) (dOp dIx (dVar 0) (dC (.int 0))) (dOp dIx (dVar 1) (dC (.int 1)))) (dOp (dMulR false) (dOp dIx (dVar 1) (dC (.int 0))) (dOp dIx (dVar 0) (dC (.int 1))))) (dCons (dOp (dMulR false) (dOp dIx (dVar 0) (dC (.int 1))) (dOp dIx (dVar 1) (dC (.int 1)))) dNil))))
def f_law_minus : DSp := spD 2 2 b_law_minus
def b_law_misses_on : DX → DTS := fun XX => (dSeq (dAsg (dTup (dCons (dC (.int 0)) (dCons (dC (.int 1)) dNil))) (dName 3))
    (dSeq (dAsg (dC (.int 0)) (dName 4))
    (dSeq (dFor (dSeqIt (dVar 2)) (dName 5) (dSeq (dAsg (dCall f_law_plus [] XX (dCons (dVar 3) (dCons (dCall f_law_minus [] XX (dCons (dTup (dCons (dC (.int 1)) (dCons (dC (.int 1)) dNil))) (dCons (dOp dIx (dOp dIx (dVar 1) (dVar 4)) (dCB dInt (dCons (dVar 5) dNil))) dNil))) dNil))) (dName 3))
    (dAsg (dOp (dAddR false) (dOp (dAddR false) (dOp (dMulR false) (dVar 4) (dVar 0)) (dC (.int 1))) (dCB dInt (dCons (dVar 5) dNil))) (dName 4))))
    (dRet (dVar 3)))))
def f_law_misses_on : DSp := spD 3 6 b_law_misses_on
def b_check_beginning : DX → DTS := fun XX => (dIfS (dOr (dTest (dOp dGtR (dCB dLen (dCons (dVar 1) dNil)) (dProp f_Plan_rounds "Plan" (dVar 0)))) (dNot (dTest (dCallK f_is_row 2 1 XX (dCons (dVar 1) (dCons (dCB dLen (dCons (dVar 1) dNil)) dNil)) (dCons (dProp f_Plan_width "Plan" (dVar 0)) dNil))))) (dRaiseF "BadRow" ["found"] (dCons (dVar 1) dNil) XX) dNext)
def f_check_beginning : DSp := spD 2 2 b_check_beginning
def b_row_misses : DX → DTS := fun XX => (dSeq (dDrop (dCall f_check_beginning [] XX (dCons (dVar 0) (dCons (dVar 1) dNil))))
    (dRet (dCall f_total [] XX (dCons (dLc false (dSeqIt (dCall f_shares_on [] XX (dCons (dVar 0) (dCons (dVar 1) dNil)))) (dName 2) dYes (dCall f_sub [] X0 (dCons (dC (.int 1)) (dCons (dVar 2) dNil))) [2]) dNil))))
def f_row_misses : DSp := spD 2 3 b_row_misses
def b_law_sum : DX → DTS := fun XX => (dSeq (dAsg (dTup (dCons (dC (.int 0)) (dCons (dC (.int 1)) dNil))) (dName 1))
    (dSeq (dFor (dSeqIt (dVar 0)) (dName 2) (dAsg (dCall f_law_plus [] XX (dCons (dVar 1) (dCons (dVar 2) dNil))) (dName 1)))
    (dRet (dVar 1))))
def f_law_sum : DSp := spD 1 3 b_law_sum
def b_law_on_row : DX → DTS := fun XX => (dSeq (dAsg (dCB (dList false) (dCons (dVar 5) dNil)) (dName 6))
    (dSeq (dAsg (dCall f_law_cut [] XX (dCons (dVar 4) (dCons (dVar 5) dNil))) (dName 7))
    (dSeq (dAsg (dLc false (dSeqIt (dVar 7)) (dName 10) dYes (dCall f_law_misses_on [] X0 (dCons (dVar 0) (dCons (dVar 1) (dCons (dVar 10) dNil)))) [10]) (dName 8))
    (dSeq (dAsg (dCall f_stretch_misses [] XX (dCons (dVar 3) (dCons (dVar 4) (dCons (dVar 6) dNil)))) (dName 9))
    (dSeq (dIfS (dOr (dNot (dTest (dCall (f_law_same 5) [] XX (dCons (dVar 9) (dCons (dVar 8) dNil))))) (dNot (dTest (dCall (f_law_same 5) [] XX (dCons (dLc false (dSeqIt (dVar 7)) (dName 10) dYes (dCall f_row_misses [] X0 (dCons (dVar 2) (dCons (dVar 10) dNil))) [10]) (dCons (dVar 8) dNil)))))) (dRet (dC (.bl false))) dNext)
    (dSeq (dDrop (dBM "list" dAppend (dVar 9) (dCons (dC .non) dNil)))
    (dSeq (dIfS (dOr (dNot (dTest (dCall (f_law_same 5) [] XX (dCons (dVar 6) (dCons (dVar 5) dNil))))) (dNot (dTest (dCall (f_law_same 5) [] XX (dCons (dCall f_stretch_misses [] XX (dCons (dVar 3) (dCons (dVar 4) (dCons (dCB dTuple (dCons (dVar 5) dNil)) dNil)))) (dCons (dVar 8) dNil)))))) (dRet (dC (.bl false))) dNext)
    (dRet (dCall (f_law_same 5) [] XX (dCons (dCall f_row_misses [] XX (dCons (dVar 3) (dCons (dVar 4) dNil))) (dCons (dCall f_law_sum [] XX (dCons (dVar 8) dNil)) dNil)))))))))))
def f_law_on_row : DSp := spD 6 11 b_law_on_row
def b_law_tail : DX → DTS := fun XX => (dSeq (dAsg (dC (.int 0)) (dName 2))
    (dSeq (dFor (dSeqIt (dVar 1)) (dName 3) (dSeq (dIfS (dTest (dOp dGtR (dOp (dAddR false) (dVar 2) (dVar 3)) (dCB dLen (dCons (dVar 0) dNil)))) (dRet (dSl false (dVar 0) (dPart (dVar 2)) dNoPart)) dNext)
    (dAsg (dOp (dAddR false) (dVar 2) (dVar 3)) (dName 2))))
    (dRet (dSl false (dVar 0) (dPart (dVar 2)) dNoPart))))
def f_law_tail : DSp := spD 2 4 b_law_tail
def b_law_one : DX → DTS := fun XX => (dSeq (dAsg (dCB (dList true) (dCons (dVar 5) dNil)) (dName 6))
    (dSeq (dAsg (dCall f_anew [] XX (dCons (dVar 4) (dCons (dVar 6) dNil))) (dName 7))
    (dSeq (dIfS (dNot (dTest (dCall (f_law_same 5) [] XX (dCons (dVar 6) (dCons (dVar 5) dNil))))) (dRet (dC (.bl false))) dNext)
    (dSeq (dDrop (dBM "list" dAppend (dVar 6) (dCons (dC (.int 1)) dNil)))
    (dSeq (dAsg (dLc false (dSeqIt (dCall f_law_inner [] XX (dCons (dVar 1) (dCons (dVar 2) dNil)))) (dName 12) dYes (dOp dIx (dVar 3) (dCall f_law_index [] X0 (dCons (dVar 1) (dCons (dCall f_law_tail [] X0 (dCons (dVar 12) (dCons (dVar 5) dNil))) dNil)))) [12]) (dName 8))
    (dSeq (dIfS (dOr (dNot (dTest (dCall f_law_is_plan [] XX (dCons (dVar 7) (dCons (dVar 1) (dCons (dVar 2) (dCons (dVar 8) dNil))))))) (dNot (dTest (dCall f_law_is_plan [] XX (dCons (dVar 4) (dCons (dVar 1) (dCons (dVar 2) (dCons (dVar 3) dNil)))))))) (dRet (dC (.bl false))) dNext)
    (dSeq (dAsg (dProp f_Plan_shares "Plan" (dVar 7)) (dName 9))
    (dSeq (dDrop (dBM "list" dAppend (dVar 9) (dCons (dC .non) dNil)))
    (dSeq (dFor (dRng1 (dCons (dC (.int 3)) dNil)) (dName 10) (dSeq (dAsg (dCall f_law_free [] XX (dCons (dVar 0) (dCons (dSl false (dC (.str "01234")) dNoPart (dPart (dVar 1))) (dCons (dVar 2) dNil)))) (dName 11))
    (dIfS (dNot (dTest (dCall f_law_on_row [] XX (dCons (dVar 1) (dCons (dVar 3) (dCons (dVar 4) (dCons (dVar 7) (dCons (dVar 11) (dCons (dVar 5) dNil))))))))) (dRet (dC (.bl false))) dNext)))
    (dRet (dAndV (dCall f_law_is_plan [] XX (dCons (dVar 7) (dCons (dVar 1) (dCons (dVar 2) (dCons (dVar 8) dNil))))) (dCall f_law_is_plan [] XX (dCons (dCall f_anew [] XX (dCons (dVar 4) (dCons (dCB dTuple (dCons (dVar 5) dNil)) dNil))) (dCons (dVar 1) (dCons (dVar 2) (dCons (dVar 8) dNil))))))))))))))))
def f_law_one : DSp := spD 6 13 b_law_one
def b_law_no_row : DX → DTS := fun XX => (dSeq (dAsg (dCall f_law_free [] XX (dCons (dVar 0) (dCons (dSl false (dC (.str "01234")) dNoPart (dPart (dVar 1))) (dCons (dVar 2) dNil)))) (dName 3))
    (dSeq (dAsg (dCall f_law_take [] XX (dCons (dVar 0) (dCons (dC (.int 4)) dNil))) (dName 4))
    (dSeq (dIfS (dTest (dOp dEqR (dVar 4) (dC (.int 0)))) (dRet (dOp (dAddR false) (dVar 3) (dC (.str "0")))) dNext)
    (dSeq (dIfS (dAnd (dTest (dOp dEqR (dVar 4) (dC (.int 1)))) (dTest (dOp dGtR (dVar 2) (dC (.int 0))))) (dRet (dSl false (dVar 3) (dPart (dC (.int 1))) dNoPart)) dNext)
    (dSeq (dAsg (dCall f_law_take [] XX (dCons (dVar 0) (dCons (dOp (dAddR false) (dVar 2) (dC (.int 1))) dNil))) (dName 5))
    (dRet (dOp (dAddR false) (dOp (dAddR false) (dSl false (dVar 3) dNoPart (dPart (dVar 5))) (dOp dIx (dLst false (dCons (dCB dStr (dCons (dVar 1) dNil)) (dCons (dC (.str "a")) (dCons (dC (.str "-")) (dCons (dC (.str " ")) dNil))))) (dCall f_law_take [] XX (dCons (dVar 0) (dCons (dC (.int 4)) dNil))))) (dSl false (dVar 3) (dPart (dOp (dAddR false) (dVar 5) (dC (.int 1)))) dNoPart))))))))
def f_law_no_row : DSp := spD 3 6 b_law_no_row
def b_law_bad_count : DX → DTS := fun XX => (dSeq (dAsg (dCall f_law_take [] XX (dCons (dVar 0) (dCons (dOp dPowR (dC (.int 10)) (dC (.int 9))) dNil))) (dName 3))
    (dSeq (dAsg (dLst false (dCons (dOp dSubR (dVar 1) (dC (.int 1))) (dCons (dOp (dAddR false) (dVar 2) (dC (.int 1))) (dCons (dC (.bl true)) (dCons (dC (.bl false)) (dCons (dOp dSubR (dOp dSubR (dVar 1) (dC (.int 2))) (dVar 3)) (dCons (dOp (dAddR false) (dOp (dAddR false) (dVar 2) (dC (.int 2))) (dVar 3)) (dCons (dOp dSubR (dOp dPowR (dC (.int 10)) (dC (.int 40))) (dC (.int 1))) (dCons (dOp dSubR (dC (.int 1)) (dOp dPowR (dC (.int 10)) (dC (.int 40)))) dNil))))))))) (dName 4))
    (dRet (dOp dIx (dVar 4) (dCall f_law_take [] XX (dCons (dVar 0) (dCons (dCB dLen (dCons (dVar 4) dNil)) dNil)))))))
def f_law_bad_count : DSp := spD 3 5 b_law_bad_count
def b_law_bad_lengths : DX → DTS := fun XX => (dSeq (dAsg (dCall f_law_lengths [] XX (dCons (dVar 0) (dCons (dVar 1) dNil))) (dName 2))
    (dSeq (dAsg (dCall f_law_take [] XX (dCons (dVar 0) (dCons (dOp (dAddR false) (dCB dLen (dCons (dVar 2) dNil)) (dC (.int 1))) dNil))) (dName 3))
    (dSeq (dIfS (dTest (dOp dEqR (dCall f_law_take [] XX (dCons (dVar 0) (dCons (dC (.int 2)) dNil))) (dC (.int 0)))) (dSeq (dAsg (dCall f_law_bad_count [] XX (dCons (dVar 0) (dCons (dC (.int 0)) (dCons (dC (.int 8)) dNil)))) (dName 5))
    (dRet (dTup (dCons (dOp (dAddR false) (dOp (dAddR false) (dSl false (dVar 2) dNoPart (dPart (dVar 3))) (dLst false (dCons (dVar 5) dNil))) (dSl false (dVar 2) (dPart (dVar 3)) dNoPart)) (dCons (dTup (dCons (dC (.str "BadCount")) (dCons (dVar 5) (dCons (dC (.int 0)) (dCons (dC (.int 8)) dNil))))) dNil))))) dNext)
    (dSeq (dAsg (dCall f_law_take [] XX (dCons (dVar 0) (dCons (dC (.int 3)) dNil))) (dName 4))
    (dSeq (dIfS (dAnd (dTest (dOp dEqR (dVar 4) (dC (.int 0)))) (dTest (dOp dGtR (dVar 1) (dC (.int 0))))) (dRet (dTup (dCons (dLc false (dSeqIt (dVar 2)) (dName 6) (dTest (dOp dEqR (dVar 6) (dC (.int 0)))) (dVar 6) [6]) (dCons (dTup (dCons (dC (.str "Mismatch")) dNil)) dNil)))) dNext)
    (dSeq (dIfS (dAnd (dTest (dOp dEqR (dVar 4) (dC (.int 1)))) (dTest (dOp dGtR (dVar 1) (dC (.int 0))))) (dRet (dTup (dCons (dCall f_law_lengths [] XX (dCons (dVar 0) (dCons (dCall f_law_edge [] XX (dCons (dVar 0) (dCons (dVar 1) dNil))) dNil))) (dCons (dTup (dCons (dC (.str "Mismatch")) dNil)) dNil)))) dNext)
    (dRet (dTup (dCons (dOp (dAddR false) (dOp (dAddR false) (dSl false (dVar 2) dNoPart (dPart (dVar 3))) (dLst false (dCons (dOp (dAddR false) (dC (.int 1)) (dCall f_law_take [] XX (dCons (dVar 0) (dCons (dC (.int 8)) dNil)))) dNil))) (dSl false (dVar 2) (dPart (dVar 3)) dNoPart)) (dCons (dTup (dCons (dC (.str "Mismatch")) dNil)) dNil))))))))))
def f_law_bad_lengths : DSp := spD 2 7 b_law_bad_lengths
def b_law_classes (cn : Str) (a : Addr) (fs : List (Str × Dt)) : DX → DTS := fun XX => (dSeq (dAsg (dLst false (dCons (dIsE a (decide (cn = "BadNumber")) (dVar 0)) (dCons (dIsE a (decide (cn = "DivisionByZero")) (dVar 0)) (dCons (dIsE a (decide (cn = "BadCount")) (dVar 0)) (dCons (dIsE a (decide (cn = "BadSize")) (dVar 0)) dNil))))) (dName 1))
    (dSeq (dAsg (dOp (dAddR false) (dVar 1) (dLst false (dCons (dIsE a (decide (cn = "BadName")) (dVar 0)) (dCons (dIsE a (decide (cn = "BadText")) (dVar 0)) (dCons (dIsE a (decide (cn = "BadRow")) (dVar 0)) (dCons (dIsE a (decide (cn = "BadShare")) (dVar 0)) dNil)))))) (dName 1))
    (dSeq (dAsg (dOp (dAddR false) (dVar 1) (dLst false (dCons (dIsE a (decide (cn = "BadWeight")) (dVar 0)) (dCons (dIsE a (decide (cn = "Mismatch")) (dVar 0)) (dCons (dIsE a (decide (cn = "NoHelper")) (dVar 0)) (dCons (dIsE a (decide (cn = "NotExact")) (dVar 0)) dNil)))))) (dName 1))
    (dSeq (dAsg (dOp (dAddR false) (dVar 1) (dLst false (dCons (dIsE a (decide (cn = "Lacking")) (dVar 0)) (dCons (dIsE a (decide (cn = "GameOver")) (dVar 0)) (dCons (dIsE a (decide (cn = "NothingToTakeBack")) (dVar 0)) dNil))))) (dName 1))
    (dSeq (dAsg (dOp (dAddR false) (dVar 1) (dLst false (dCons (dIsE a (decide (cn = "UnknownName")) (dVar 0)) (dCons (dIsE a (decide (cn = "TakenName")) (dVar 0)) (dCons (dIsE a (decide (cn = "WrongKind")) (dVar 0)) (dCons (dIsE a (decide (cn = "InUse")) (dVar 0)) dNil)))))) (dName 1))
    (dRet (dBM "list" dCntB (dVar 1) (dCons (dC (.bl true)) dNil))))))))
def f_law_classes (cn : Str) : DSe := fun a fs => spD 1 2 (b_law_classes cn a fs)
def bs_law_denied (a : Addr) (cn : Str) (fs : List (Str × Dt)) : DTS := (dSeq (dIfS (dOr (dTest (dOp dNeR (dCallE (f_law_classes cn) a fs (dCons (dVar 2) dNil)) (dC (.int 1)))) (dNot (dTest (dIsE a true (dVar 2))))) (dRet (dC (.bl false))) dNext)
    (dSeq (dIfS (dTest (dIsE a (decide (cn = "BadCount")) (dVar 2))) (dRet (dCall (f_law_same 5) [] X0 (dCons (dTup (dCons (dC (.str "BadCount")) (dCons (dXf a fs "found" (dVar 2)) (dCons (dXf a fs "low" (dVar 2)) (dCons (dXf a fs "high" (dVar 2)) dNil))))) (dCons (dVar 1) dNil)))) dNext)
    (dSeq (dIfS (dTest (dIsE a (decide (cn = "BadRow")) (dVar 2))) (dRet (dCall (f_law_same 5) [] X0 (dCons (dTup (dCons (dC (.str "BadRow")) (dCons (dXf a fs "found" (dVar 2)) dNil))) (dCons (dVar 1) dNil)))) dNext)
    (dRet (dAndV (dIsE a (decide (cn = "Mismatch")) (dVar 2)) (dOp dEqR (dVar 1) (dTup (dCons (dC (.str "Mismatch")) dNil))))))))
def b_law_wrong : DX → DTS := fun XX => (dSeq (dAsg (dCall f_law_free [] XX (dCons (dVar 0) (dCons (dSl false (dC (.str "01234")) dNoPart (dPart (dVar 1))) (dCons (dVar 2) dNil)))) (dName 5))
    (dSeq (dAsg (dCall f_law_no_row [] XX (dCons (dVar 0) (dCons (dVar 1) (dCons (dVar 2) dNil)))) (dName 6))
    (dSeq (dAsg (dCall f_law_bad_count [] XX (dCons (dVar 0) (dCons (dC (.int 0)) (dCons (dC (.int 8)) dNil)))) (dName 7))
    (dSeq (dAsg (dOp (dAddR false) (dOp (dAddR false) (dLst false (dCons (dVar 7) dNil)) (dCB (dList false) (dCons (dVar 4) dNil))) (dLst false (dCons (dCall f_law_bad_count [] XX (dCons (dVar 0) (dCons (dC (.int 0)) (dCons (dC (.int 8)) dNil)))) dNil))) (dName 8))
    (dSeq (dFor (dSeqIt (dLst false (dCons (dCall f_law_bad_lengths [] XX (dCons (dVar 0) (dCons (dVar 2) dNil))) (dCons (dCall f_law_bad_lengths [] XX (dCons (dVar 0) (dCons (dVar 2) dNil))) (dCons (dTup (dCons (dVar 8) (dCons (dTup (dCons (dC (.str "BadCount")) (dCons (dVar 7) (dCons (dC (.int 0)) (dCons (dC (.int 8)) dNil))))) dNil))) dNil))))) (dName 9) (dSeq (dIfS (dNot (dTest (dDen Cs bs_law_denied (fun XX => (dCall f_anew [] XX (dCons (dVar 3) (dCons (dOp dIx (dVar 9) (dC (.int 0))) dNil)))) (dOp dIx (dVar 9) (dC (.int 1)))))) (dRet (dC (.bl false))) dNext)
    (dSeq (dIfS (dNot (dTest (dDen Cs bs_law_denied (fun XX => (dCall f_stretch_misses [] XX (dCons (dVar 3) (dCons (dVar 5) (dCons (dOp dIx (dVar 9) (dC (.int 0))) dNil))))) (dOp dIx (dVar 9) (dC (.int 1)))))) (dRet (dC (.bl false))) dNext)
    (dIfS (dNot (dTest (dDen Cs bs_law_denied (fun XX => (dCall f_stretch_misses [] XX (dCons (dVar 3) (dCons (dVar 6) (dCons (dOp dIx (dVar 9) (dC (.int 0))) dNil))))) (dTup (dCons (dC (.str "BadRow")) (dCons (dVar 6) dNil)))))) (dRet (dC (.bl false))) dNext))))
    (dRet (dDen Cs bs_law_denied (fun XX => (dCall f_stretch_misses [] XX (dCons (dVar 3) (dCons (dVar 6) (dCons (dCB (dList false) (dCons (dVar 4) dNil)) dNil))))) (dTup (dCons (dC (.str "BadRow")) (dCons (dVar 6) dNil))))))))))
def f_law_wrong : DSp := spD 5 10 b_law_wrong
def b_law : DX → DTS := fun XX => (dSeq (dAsg (dCall f_law_store [] XX (dCons (dVar 0) dNil)) (dName 1))
    (dSeq (dAsg (dCall f_law_shape [] XX (dCons (dVar 1) (dCons (dOp dIx (dLst false (dCons (dC (.int 64)) (dCons (dC (.int 256)) dNil))) (dCB dInt (dCons (dOp dEqR (dCall f_law_take [] XX (dCons (dVar 1) (dCons (dC (.int 16)) dNil))) (dC (.int 0))) dNil))) dNil))) (dName 2))
    (dSeq (dAsg (dOp dIx (dVar 2) (dC (.int 0))) (dName 3))
    (dSeq (dAsg (dOp dIx (dVar 2) (dC (.int 1))) (dName 4))
    (dSeq (dAsg (dCall f_law_lengths [] XX (dCons (dVar 1) (dCons (dVar 4) dNil))) (dName 5))
    (dSeq (dAsg (dCall f_law_lengths [] XX (dCons (dVar 1) (dCons (dVar 4) dNil))) (dName 6))
    (dSeq (dAsg (dCall f_law_dealt_all [] XX (dCons (dVar 1) (dCons (dVar 3) (dCons (dVar 4) dNil)))) (dName 7))
    (dSeq (dAsg (dCall f_law_dealt_all [] XX (dCons (dVar 1) (dCons (dVar 3) (dCons (dVar 4) dNil)))) (dName 8))
    (dSeq (dAsg (dMake false "Plan" f_Plan___init__ XX (dCons (dVar 3) (dCons (dVar 4) (dCons (dCall f_law_passed [] XX (dCons (dVar 1) (dCons (dVar 7) dNil))) dNil)))) (dName 9))
    (dSeq (dAsg (dMake false "Plan" f_Plan___init__ XX (dCons (dVar 3) (dCons (dVar 4) (dCons (dCall f_law_passed [] XX (dCons (dVar 1) (dCons (dVar 8) dNil))) dNil)))) (dName 10))
    (dSeq (dIfS (dNot (dTest (dCall f_law_one [] XX (dCons (dVar 1) (dCons (dVar 3) (dCons (dVar 4) (dCons (dVar 7) (dCons (dVar 9) (dCons (dVar 5) dNil))))))))) (dRet (dC (.bl false))) dNext)
    (dSeq (dIfS (dNot (dTest (dCall f_law_one [] XX (dCons (dVar 1) (dCons (dVar 3) (dCons (dVar 4) (dCons (dVar 8) (dCons (dVar 10) (dCons (dVar 6) dNil))))))))) (dRet (dC (.bl false))) dNext)
    (dSeq (dIfS (dNot (dTest (dCall f_law_wrong [] XX (dCons (dVar 1) (dCons (dVar 3) (dCons (dVar 4) (dCons (dVar 9) (dCons (dVar 6) dNil)))))))) (dRet (dC (.bl false))) dNext)
    (dRet (dAndV (dCall f_law_one [] XX (dCons (dVar 1) (dCons (dVar 3) (dCons (dVar 4) (dCons (dVar 7) (dCons (dVar 9) (dCons (dVar 6) dNil))))))) (dCall f_law_one [] XX (dCons (dVar 1) (dCons (dVar 3) (dCons (dVar 4) (dCons (dVar 8) (dCons (dVar 10) (dCons (dVar 5) dNil))))))))))))))))))))))
def f_law : DSp := spD 1 11 b_law
end LK
set_option Elab.async false
set_option linter.all false
set_option maxRecDepth 100000
set_option maxHeartbeats 4000000
namespace LK
open PySem PySem.Spec PyProof.Rows L2 DL
abbrev R : PySem.W.OpenRow := PySem.W.OpenLaw.row PySem.Challenge.rw_notbehind_k75_anew_plays_each_stretch_al
def top (i : Nat) : Stmt := R.prog.main.body.getD i (.Pass ⟨0, 0, 0, 0⟩)

def fn0 : List He5.DefA := [
  EL.df (fun K => He.ma K (He.ga K "BadCount") "__init__") "__init__" "BadCount.__init__" (EL.mth (top 4) 0),
  EL.df (fun K => He.ma K (He.ga K "BadSize") "__init__") "__init__" "BadSize.__init__" (EL.mth (top 5) 0),
  EL.df (fun K => He.ma K (He.ga K "BadName") "__init__") "__init__" "BadName.__init__" (EL.mth (top 6) 0),
  EL.df (fun K => He.ma K (He.ga K "BadText") "__init__") "__init__" "BadText.__init__" (EL.mth (top 7) 0),
  EL.df (fun K => He.ma K (He.ga K "BadRow") "__init__") "__init__" "BadRow.__init__" (EL.mth (top 8) 0),
  EL.df (fun K => He.ma K (He.ga K "BadShare") "__init__") "__init__" "BadShare.__init__" (EL.mth (top 9) 0),
  EL.df (fun K => He.ma K (He.ga K "NotExact") "__init__") "__init__" "NotExact.__init__" (EL.mth (top 13) 0),
  EL.df (fun K => He.ma K (He.ga K "Lacking") "__init__") "__init__" "Lacking.__init__" (EL.mth (top 14) 0),
  EL.df (fun K => He.ma K (He.ga K "UnknownName") "__init__") "__init__" "UnknownName.__init__" (EL.mth (top 17) 0),
  EL.df (fun K => He.ma K (He.ga K "TakenName") "__init__") "__init__" "TakenName.__init__" (EL.mth (top 18) 0),
  EL.df (fun K => He.ma K (He.ga K "WrongKind") "__init__") "__init__" "WrongKind.__init__" (EL.mth (top 19) 0),
  EL.df (fun K => He.ma K (He.ga K "InUse") "__init__") "__init__" "InUse.__init__" (EL.mth (top 20) 0),
  EL.df (fun K => He.ga K "is_integer_value") "is_integer_value" "is_integer_value" (top 22),
  EL.df (fun K => He.ga K "parts_of") "parts_of" "parts_of" (top 23),
  EL.df (fun K => He.ga K "common_divisor") "common_divisor" "common_divisor" (top 24),
  EL.df (fun K => He.ga K "fraction") "fraction" "fraction" (top 25),
  EL.df (fun K => He.ga K "sum_of_two") "sum_of_two" "sum_of_two" (top 26),
  EL.df (fun K => He.ga K "opposite") "opposite" "opposite" (top 27),
  EL.df (fun K => He.ga K "sub") "sub" "sub" (top 28),
  EL.df (fun K => He.ga K "total") "total" "total" (top 29),
  EL.df (fun K => He.ga K "check_count_rows") "check_count" "check_count" (top 34),
  EL.df (fun K => He.ga K "check_shape") "check_shape" "check_shape" (top 36),
  EL.df (fun K => He.ga K "has_only") "has_only" "has_only" (top 37),
  EL.df (fun K => He.ga K "next_texts") "next_texts" "next_texts" (top 38),
  EL.df (fun K => He.ga K "most_rounds") "most_rounds" "most_rounds" (top 39)]
def fn1 : List He5.DefA := [
  EL.df (fun K => He.ga K "letters") "letters" "letters" (top 40),
  EL.df (fun K => He.ga K "is_row") "is_row" "is_row" (top 41) [] [("width", .int (2))],
  EL.df (fun K => He.ga K "beginnings_of") "beginnings_of" "beginnings_of" (top 42) [] [("width", .int (2))],
  EL.df (fun K => He.ga K "check_size") "check_size" "check_size" (top 45),
  EL.df (fun K => He.ga K "check_beginning") "check_beginning" "check_beginning" (top 46),
  EL.df (fun K => He.ga K "share_parts") "share_parts" "share_parts" (top 47),
  EL.df (fun K => He.ga K "is_sharing") "is_sharing" "is_sharing" (top 48),
  EL.df (fun K => He.ga K "sharing_at") "sharing_at" "sharing_at" (top 49),
  EL.df (fun K => He.ma K (He.ga K "Plan") "__init__") "__init__" "Plan.__init__" (EL.mth (top 50) 0),
  EL.df (fun K => He5.wf K (He.ga K "Plan") "property" "width") "width" "Plan.width" (EL.mth (top 50) 1),
  EL.df (fun K => He5.wf K (He.ga K "Plan") "property" "rounds") "rounds" "Plan.rounds" (EL.mth (top 50) 2),
  EL.df (fun K => He5.wf K (He.ga K "Plan") "property" "shares") "shares" "Plan.shares" (EL.mth (top 50) 3),
  EL.df (fun K => He.ma K (He.ga K "Plan") "__call__") "__call__" "Plan.__call__" (EL.mth (top 50) 4),
  EL.df (fun K => He.ma K (He.ga K "Plan") "__len__") "__len__" "Plan.__len__" (EL.mth (top 50) 5),
  EL.df (fun K => He.ma K (He.ga K "Plan") "__iter__") "__iter__" "Plan.__iter__" (EL.mth (top 50) 6),
  EL.df (fun K => He.ma K (He.ga K "Plan") "__eq__") "__eq__" "Plan.__eq__" (EL.mth (top 50) 7),
  EL.df (fun K => He.ma K (He.ga K "Plan") "__add__") "__add__" "Plan.__add__" (EL.mth (top 50) 8),
  EL.df (fun K => He.ga K "check_row") "check_row" "check_row" (top 52),
  EL.df (fun K => He.ga K "shares_on") "shares_on" "shares_on" (top 53),
  EL.df (fun K => He.ga K "row_misses") "row_misses" "row_misses" (top 54),
  EL.df (fun K => He.ga K "miss_steps") "miss_steps" "miss_steps" (top 55),
  EL.df (fun K => He.ga K "check_count") "check_count" "check_count" (top 58),
  EL.df (fun K => He.ga K "check_lengths") "check_lengths" "check_lengths" (top 60),
  EL.df (fun K => He.ga K "stretch_misses") "stretch_misses" "stretch_misses" (top 61),
  EL.df (fun K => He.ga K "stretch_starts") "stretch_starts" "stretch_starts" (top 62)]
def fn2 : List He5.DefA := [
  EL.df (fun K => He.ga K "anew") "anew" "anew" (top 63),
  EL.df (fun K => He.ga K "_law_store") "_law_store" "_law_store" (top 65),
  EL.df (fun K => He.ga K "_law_mixed") "_law_mixed" "_law_mixed" (top 66),
  EL.df (fun K => He.ga K "_law_take") "_law_take" "_law_take" (top 67),
  EL.df (fun K => He.ga K "_law_edge") "_law_edge" "_law_edge" (top 68),
  EL.df (fun K => He.ga K "_law_power") "_law_power" "_law_power" (top 69),
  EL.df (fun K => He.ga K "_law_gcd") "_law_gcd" "_law_gcd" (top 70),
  EL.df (fun K => He.ga K "_law_low") "_law_low" "_law_low" (top 71),
  EL.df (fun K => He.ga K "_law_plus") "_law_plus" "_law_plus" (top 72),
  EL.df (fun K => He.ga K "_law_minus") "_law_minus" "_law_minus" (top 73),
  EL.df (fun K => He.ga K "_law_sum") "_law_sum" "_law_sum" (top 74),
  EL.df (fun K => He.ga K "_law_dress") "_law_dress" "_law_dress" (top 75),
  EL.df (fun K => He.ga K "_law_dressed") "_law_dressed" "_law_dressed" (top 76),
  EL.df (fun K => He.ga K "_law_bad_count") "_law_bad_count" "_law_bad_count" (top 77),
  EL.df (fun K => He.ga K "_law_same") "_law_same" "_law_same" (top 78),
  EL.df (fun K => He.ga K "_law_most") "_law_most" "_law_most" (top 79),
  EL.df (fun K => He.ga K "_law_shape") "_law_shape" "_law_shape" (top 80),
  EL.df (fun K => He.ga K "_law_rounds") "_law_rounds" "_law_rounds" (top 81),
  EL.df (fun K => He.ga K "_law_texts_b") "_law_texts_b" "_law_texts_b" (top 82),
  EL.df (fun K => He.ga K "_law_inner") "_law_inner" "_law_inner" (top 83),
  EL.df (fun K => He.ga K "_law_index") "_law_index" "_law_index" (top 84),
  EL.df (fun K => He.ga K "_law_free") "_law_free" "_law_free" (top 85),
  EL.df (fun K => He.ga K "_law_told_shares") "_law_told_shares" "_law_told_shares" (top 86),
  EL.df (fun K => He.ga K "_law_misses_on") "_law_misses_on" "_law_misses_on" (top 87),
  EL.df (fun K => He.ga K "_law_is_plan") "_law_is_plan" "_law_is_plan" (top 88)]
def fn3 : List He5.DefA := [
  EL.df (fun K => He.ga K "_law_lengths") "_law_lengths" "_law_lengths" (top 89),
  EL.df (fun K => He.ga K "_law_bad_lengths") "_law_bad_lengths" "_law_bad_lengths" (top 90),
  EL.df (fun K => He.ga K "_law_classes") "_law_classes" "_law_classes" (top 91),
  EL.df (fun K => He.ga K "_law_denied") "_law_denied" "_law_denied" (top 92),
  EL.df (fun K => He.ga K "_law_dealt") "_law_dealt" "_law_dealt" (top 93),
  EL.df (fun K => He.ga K "_law_dealt_all") "_law_dealt_all" "_law_dealt_all" (top 94),
  EL.df (fun K => He.ga K "_law_no_row") "_law_no_row" "_law_no_row" (top 95),
  EL.df (fun K => He.ga K "_law_passed") "_law_passed" "_law_passed" (top 96),
  EL.df (fun K => He.ga K "_law_cut") "_law_cut" "_law_cut" (top 97),
  EL.df (fun K => He.ga K "_law_tail") "_law_tail" "_law_tail" (top 98),
  EL.df (fun K => He.ga K "_law_one") "_law_one" "_law_one" (top 99),
  EL.df (fun K => He.ga K "_law_on_row") "_law_on_row" "_law_on_row" (top 100),
  EL.df (fun K => He.ga K "_law_wrong") "_law_wrong" "_law_wrong" (top 101),
  EL.df (fun K => He.ga K "law") "law" "law" (top 102)]
def fn : List He5.DefA := fn0 ++ fn1 ++ fn2 ++ fn3
def allx : List Str := ["BadNumber", "DivisionByZero", "BadCount", "BadSize", "BadName", "BadText", "BadRow", "BadShare", "BadWeight", "Mismatch", "NoHelper", "NotExact", "Lacking", "GameOver", "NothingToTakeBack", "UnknownName", "TakenName", "WrongKind", "InUse"]
def lamF : List Str := ["_law_wrong"]
def lamT (K : PySem.W.Frag) : List (Addr × Str) := lamF.map fun f => ((EL.ctA K (He.ga K f)).2, (f ++ ".<locals>.") ++ "<lambda>")
def lamC (K : PySem.W.Frag) : List (Addr × Addr) := lamF.map fun f => EL.ctA K (He.ga K f)
abbrev TBs (K : PySem.W.Frag) (mg : Str → Option Value) (base : Heap) : Prop := ∀ p ∈ lamC K, LamX.TabB base mg p.1 p.2
def fa0 : List He.Fa := [.cls "Plan", .free "ValueError", .free "abs", .free "bool", .free "enumerate", .free "int", .free "isinstance", .free "len", .free "list", .free "range", .free "str", .free "sum", .free "tuple", .free "zip", .glo "BadCount", .glo "BadName", .glo "BadNumber", .glo "BadRow", .glo "BadShare", .glo "BadSize", .glo "BadText", .glo "BadWeight", .glo "DivisionByZero", .glo "GameOver", .glo "InUse", .glo "Lacking", .glo "MOST_ROUNDS", .glo "Mismatch", .glo "NoHelper", .glo "NotBehindError"]
def fa1 : List He.Fa := [.glo "NotExact", .glo "NothingToTakeBack", .glo "Plan", .glo "TakenName", .glo "UnknownName", .glo "WHOLE_SHARE", .glo "WrongKind", .glo "_law_bad_count", .glo "_law_bad_lengths", .glo "_law_classes", .glo "_law_cut", .glo "_law_dealt", .glo "_law_dealt_all", .glo "_law_denied", .glo "_law_dress", .glo "_law_dressed", .glo "_law_edge", .glo "_law_free", .glo "_law_gcd", .glo "_law_index", .glo "_law_inner", .glo "_law_is_plan", .glo "_law_lengths", .glo "_law_low", .glo "_law_minus", .glo "_law_misses_on", .glo "_law_mixed", .glo "_law_most", .glo "_law_no_row", .glo "_law_on_row"]
def fa2 : List He.Fa := [.glo "_law_one", .glo "_law_passed", .glo "_law_plus", .glo "_law_power", .glo "_law_rounds", .glo "_law_same", .glo "_law_shape", .glo "_law_store", .glo "_law_sum", .glo "_law_tail", .glo "_law_take", .glo "_law_texts_b", .glo "_law_told_shares", .glo "_law_wrong", .glo "anew", .glo "beginnings_of", .glo "check_beginning", .glo "check_count_horizons", .glo "check_count_rows", .glo "check_lengths", .glo "check_row", .glo "check_shape", .glo "check_size", .glo "common_divisor", .glo "fraction", .glo "has_only", .glo "is_integer_value", .glo "is_row", .glo "is_sharing", .glo "law"]
def fa3 : List He.Fa := [.glo "letters", .glo "miss_steps", .glo "most_rounds", .glo "next_texts", .glo "opposite", .glo "parts_of", .glo "row_misses", .glo "share_parts", .glo "shares_on", .glo "sharing_at", .glo "stretch_misses", .glo "stretch_starts", .glo "sub", .glo "sum_of_two", .glo "total", .mkr "Plan", .noat "BadCount" "found", .noat "BadCount" "high", .noat "BadCount" "low", .noat "BadRow" "found", .noat "BadShare" "at", .noat "BadSize" "due", .noat "BadSize" "found", .noat "Plan" "held_places", .noat "Plan" "held_rounds", .noat "Plan" "held_shares", .noat "Plan" "held_width", .int "MOST_LENGTH" (8), .str "OUTCOMES" "01234", .int "WIDEST" (5)]
def fa4 : List He.Fa := [.exc "BadNumber", .exc "Mismatch"]
def fa : List He.Fa := fa0 ++ fa1 ++ fa2 ++ fa3 ++ fa4
def ex20 : List (PySem.W.Frag → Bool) := [fun K => EL.callB K "Plan", fun K => decide (He.ga K "check_count_horizons" = He.ga K "check_count"), fun K => EL.oiB K "BadCount", fun K => EL.oiB K "BadRow", fun K => EL.oiB K "BadShare", fun K => EL.oiB K "BadSize", fun K => EL.oexB K "BadCount", fun K => EL.oexB K "BadRow", fun K => EL.oexB K "BadShare", fun K => EL.oexB K "BadSize", fun K => EL.propB K "Plan" "rounds", fun K => EL.propB K "Plan" "shares", fun K => EL.propB K "Plan" "width", fun K => He.tupB K "MOST_ROUNDS" [.int (8), .int (8), .int (5), .int (4), .int (3)], fun K => He.tupB K "WHOLE_SHARE" [.int (1), .int (1)], fun K => Cs.all fun c => kitsB K c allx, fun K => Cs.all fun c => kitT K c "ValueError", fun K => Cs.all fun c => xcB K c, fun K => Cs.all fun c => decide (PySem.W.exmOne K (.ref (He.ga K c)) (.ref (He.ga K "NotBehindError")) = some true), fun K => Cs.all fun c => (["found", "high", "low"] : List Str).all fun f => decide (PySem.W.findIn K (.ref (He.ga K c)) f = some none), fun K => (lamT K).all fun q => (lamT K).all fun r => !(decide (q.1 = r.1)) || decide (q.2 = r.2)]
def ex2 : List (PySem.W.Frag → Bool) := ex20
def exb (K : PySem.W.Frag) : Bool := (fa.all fun f => f.ok K) && ex2.all fun b => b K
def tf : List EL.At := [fun K => He.ga K "_law_wrong"]
structure C (K : PySem.W.Frag) (mg : Str → Option Value) : Prop where
  ex : ∃ h : Heap, K.In h ∧ h.Ns mainGlobals mg ∧ EL.Says exb fn tf h K
section
variable {K : PySem.W.Frag} {mg : Str → Option Value}
theorem C.def_ (c : C K mg) (i : Nat) {d : He5.DefA} (hi : fn[i]? = some d := by rfl) : ∃ fd, FunD K d.name d.qual d.params d.body d.scope (d.dvs K) (d.kws K) (d.at_ K) fd := by
  obtain ⟨h, X, G, S⟩ := c.ex
  exact S.def_ i hi
theorem C.fact (c : C K mg) (i : Nat) {f : He.Fa} (hi : fa[i]? = some f := by rfl) : f.ok K = true := by
  obtain ⟨h, X, G, S⟩ := c.ex
  exact List.all_eq_true.mp (Bool.and_eq_true_iff.mp S.more).1 f (List.mem_of_getElem? hi)
theorem C.fact2 (c : C K mg) (i : Nat) {b : PySem.W.Frag → Bool} (hi : ex2[i]? = some b := by rfl) : b K = true := by
  obtain ⟨h, X, G, S⟩ := c.ex
  exact List.all_eq_true.mp (Bool.and_eq_true_iff.mp S.more).2 b (List.mem_of_getElem? hi)
end
theorem C.cl_Plan {K : PySem.W.Frag} {mg : Str → Option Value} (c : C K mg) : Cls K (He.ga K "Plan") := He.cls_ok (c.fact 0)
theorem C.co_Plan {K : PySem.W.Frag} {mg : Str → Option Value} (c : C K mg) : StX.CallO K (He.ga K "Plan") (He.ma K (He.ga K "Plan") "__call__") := EL.callB_ok (c.fact2 0)
theorem C.fr_ValueError {K : PySem.W.Frag} {mg : Str → Option Value} (c : C K mg) : mg "ValueError" = none := by
  obtain ⟨h, X, G, S⟩ := c.ex
  exact He.free_ok X G (c.fact 1)
theorem C.fr_abs {K : PySem.W.Frag} {mg : Str → Option Value} (c : C K mg) : mg "abs" = none := by
  obtain ⟨h, X, G, S⟩ := c.ex
  exact He.free_ok X G (c.fact 2)
theorem C.fr_bool {K : PySem.W.Frag} {mg : Str → Option Value} (c : C K mg) : mg "bool" = none := by
  obtain ⟨h, X, G, S⟩ := c.ex
  exact He.free_ok X G (c.fact 3)
theorem C.fr_enumerate {K : PySem.W.Frag} {mg : Str → Option Value} (c : C K mg) : mg "enumerate" = none := by
  obtain ⟨h, X, G, S⟩ := c.ex
  exact He.free_ok X G (c.fact 4)
theorem C.fr_int {K : PySem.W.Frag} {mg : Str → Option Value} (c : C K mg) : mg "int" = none := by
  obtain ⟨h, X, G, S⟩ := c.ex
  exact He.free_ok X G (c.fact 5)
theorem C.fr_isinstance {K : PySem.W.Frag} {mg : Str → Option Value} (c : C K mg) : mg "isinstance" = none := by
  obtain ⟨h, X, G, S⟩ := c.ex
  exact He.free_ok X G (c.fact 6)
theorem C.fr_len {K : PySem.W.Frag} {mg : Str → Option Value} (c : C K mg) : mg "len" = none := by
  obtain ⟨h, X, G, S⟩ := c.ex
  exact He.free_ok X G (c.fact 7)
theorem C.fr_list {K : PySem.W.Frag} {mg : Str → Option Value} (c : C K mg) : mg "list" = none := by
  obtain ⟨h, X, G, S⟩ := c.ex
  exact He.free_ok X G (c.fact 8)
theorem C.fr_range {K : PySem.W.Frag} {mg : Str → Option Value} (c : C K mg) : mg "range" = none := by
  obtain ⟨h, X, G, S⟩ := c.ex
  exact He.free_ok X G (c.fact 9)
theorem C.fr_str {K : PySem.W.Frag} {mg : Str → Option Value} (c : C K mg) : mg "str" = none := by
  obtain ⟨h, X, G, S⟩ := c.ex
  exact He.free_ok X G (c.fact 10)
theorem C.fr_sum {K : PySem.W.Frag} {mg : Str → Option Value} (c : C K mg) : mg "sum" = none := by
  obtain ⟨h, X, G, S⟩ := c.ex
  exact He.free_ok X G (c.fact 11)
theorem C.fr_tuple {K : PySem.W.Frag} {mg : Str → Option Value} (c : C K mg) : mg "tuple" = none := by
  obtain ⟨h, X, G, S⟩ := c.ex
  exact He.free_ok X G (c.fact 12)
theorem C.fr_zip {K : PySem.W.Frag} {mg : Str → Option Value} (c : C K mg) : mg "zip" = none := by
  obtain ⟨h, X, G, S⟩ := c.ex
  exact He.free_ok X G (c.fact 13)
theorem C.g_BadCount {K : PySem.W.Frag} {mg : Str → Option Value} (c : C K mg) : mg "BadCount" = some (.ref (He.ga K "BadCount")) := by
  obtain ⟨h, X, G, S⟩ := c.ex
  exact He.glo_ok X G (c.fact 14)
theorem C.g_BadName {K : PySem.W.Frag} {mg : Str → Option Value} (c : C K mg) : mg "BadName" = some (.ref (He.ga K "BadName")) := by
  obtain ⟨h, X, G, S⟩ := c.ex
  exact He.glo_ok X G (c.fact 15)
theorem C.g_BadNumber {K : PySem.W.Frag} {mg : Str → Option Value} (c : C K mg) : mg "BadNumber" = some (.ref (He.ga K "BadNumber")) := by
  obtain ⟨h, X, G, S⟩ := c.ex
  exact He.glo_ok X G (c.fact 16)
theorem C.g_BadRow {K : PySem.W.Frag} {mg : Str → Option Value} (c : C K mg) : mg "BadRow" = some (.ref (He.ga K "BadRow")) := by
  obtain ⟨h, X, G, S⟩ := c.ex
  exact He.glo_ok X G (c.fact 17)
theorem C.g_BadShare {K : PySem.W.Frag} {mg : Str → Option Value} (c : C K mg) : mg "BadShare" = some (.ref (He.ga K "BadShare")) := by
  obtain ⟨h, X, G, S⟩ := c.ex
  exact He.glo_ok X G (c.fact 18)
theorem C.g_BadSize {K : PySem.W.Frag} {mg : Str → Option Value} (c : C K mg) : mg "BadSize" = some (.ref (He.ga K "BadSize")) := by
  obtain ⟨h, X, G, S⟩ := c.ex
  exact He.glo_ok X G (c.fact 19)
theorem C.g_BadText {K : PySem.W.Frag} {mg : Str → Option Value} (c : C K mg) : mg "BadText" = some (.ref (He.ga K "BadText")) := by
  obtain ⟨h, X, G, S⟩ := c.ex
  exact He.glo_ok X G (c.fact 20)
theorem C.g_BadWeight {K : PySem.W.Frag} {mg : Str → Option Value} (c : C K mg) : mg "BadWeight" = some (.ref (He.ga K "BadWeight")) := by
  obtain ⟨h, X, G, S⟩ := c.ex
  exact He.glo_ok X G (c.fact 21)
theorem C.g_DivisionByZero {K : PySem.W.Frag} {mg : Str → Option Value} (c : C K mg) : mg "DivisionByZero" = some (.ref (He.ga K "DivisionByZero")) := by
  obtain ⟨h, X, G, S⟩ := c.ex
  exact He.glo_ok X G (c.fact 22)
theorem C.g_GameOver {K : PySem.W.Frag} {mg : Str → Option Value} (c : C K mg) : mg "GameOver" = some (.ref (He.ga K "GameOver")) := by
  obtain ⟨h, X, G, S⟩ := c.ex
  exact He.glo_ok X G (c.fact 23)
theorem C.g_InUse {K : PySem.W.Frag} {mg : Str → Option Value} (c : C K mg) : mg "InUse" = some (.ref (He.ga K "InUse")) := by
  obtain ⟨h, X, G, S⟩ := c.ex
  exact He.glo_ok X G (c.fact 24)
theorem C.g_Lacking {K : PySem.W.Frag} {mg : Str → Option Value} (c : C K mg) : mg "Lacking" = some (.ref (He.ga K "Lacking")) := by
  obtain ⟨h, X, G, S⟩ := c.ex
  exact He.glo_ok X G (c.fact 25)
theorem C.g_MOST_ROUNDS {K : PySem.W.Frag} {mg : Str → Option Value} (c : C K mg) : mg "MOST_ROUNDS" = some (.ref (He.ga K "MOST_ROUNDS")) := by
  obtain ⟨h, X, G, S⟩ := c.ex
  exact He.glo_ok X G (c.fact 26)
theorem C.g_Mismatch {K : PySem.W.Frag} {mg : Str → Option Value} (c : C K mg) : mg "Mismatch" = some (.ref (He.ga K "Mismatch")) := by
  obtain ⟨h, X, G, S⟩ := c.ex
  exact He.glo_ok X G (c.fact 27)
theorem C.g_NoHelper {K : PySem.W.Frag} {mg : Str → Option Value} (c : C K mg) : mg "NoHelper" = some (.ref (He.ga K "NoHelper")) := by
  obtain ⟨h, X, G, S⟩ := c.ex
  exact He.glo_ok X G (c.fact 28)
theorem C.g_NotBehindError {K : PySem.W.Frag} {mg : Str → Option Value} (c : C K mg) : mg "NotBehindError" = some (.ref (He.ga K "NotBehindError")) := by
  obtain ⟨h, X, G, S⟩ := c.ex
  exact He.glo_ok X G (c.fact 29)
theorem C.g_NotExact {K : PySem.W.Frag} {mg : Str → Option Value} (c : C K mg) : mg "NotExact" = some (.ref (He.ga K "NotExact")) := by
  obtain ⟨h, X, G, S⟩ := c.ex
  exact He.glo_ok X G (c.fact 30)
theorem C.g_NothingToTakeBack {K : PySem.W.Frag} {mg : Str → Option Value} (c : C K mg) : mg "NothingToTakeBack" = some (.ref (He.ga K "NothingToTakeBack")) := by
  obtain ⟨h, X, G, S⟩ := c.ex
  exact He.glo_ok X G (c.fact 31)
theorem C.g_Plan {K : PySem.W.Frag} {mg : Str → Option Value} (c : C K mg) : mg "Plan" = some (.ref (He.ga K "Plan")) := by
  obtain ⟨h, X, G, S⟩ := c.ex
  exact He.glo_ok X G (c.fact 32)
theorem C.g_TakenName {K : PySem.W.Frag} {mg : Str → Option Value} (c : C K mg) : mg "TakenName" = some (.ref (He.ga K "TakenName")) := by
  obtain ⟨h, X, G, S⟩ := c.ex
  exact He.glo_ok X G (c.fact 33)
theorem C.g_UnknownName {K : PySem.W.Frag} {mg : Str → Option Value} (c : C K mg) : mg "UnknownName" = some (.ref (He.ga K "UnknownName")) := by
  obtain ⟨h, X, G, S⟩ := c.ex
  exact He.glo_ok X G (c.fact 34)
theorem C.g_WHOLE_SHARE {K : PySem.W.Frag} {mg : Str → Option Value} (c : C K mg) : mg "WHOLE_SHARE" = some (.ref (He.ga K "WHOLE_SHARE")) := by
  obtain ⟨h, X, G, S⟩ := c.ex
  exact He.glo_ok X G (c.fact 35)
theorem C.g_WrongKind {K : PySem.W.Frag} {mg : Str → Option Value} (c : C K mg) : mg "WrongKind" = some (.ref (He.ga K "WrongKind")) := by
  obtain ⟨h, X, G, S⟩ := c.ex
  exact He.glo_ok X G (c.fact 36)
theorem C.g__law_bad_count {K : PySem.W.Frag} {mg : Str → Option Value} (c : C K mg) : mg "_law_bad_count" = some (.ref (He.ga K "_law_bad_count")) := by
  obtain ⟨h, X, G, S⟩ := c.ex
  exact He.glo_ok X G (c.fact 37)
theorem C.g__law_bad_lengths {K : PySem.W.Frag} {mg : Str → Option Value} (c : C K mg) : mg "_law_bad_lengths" = some (.ref (He.ga K "_law_bad_lengths")) := by
  obtain ⟨h, X, G, S⟩ := c.ex
  exact He.glo_ok X G (c.fact 38)
theorem C.g__law_classes {K : PySem.W.Frag} {mg : Str → Option Value} (c : C K mg) : mg "_law_classes" = some (.ref (He.ga K "_law_classes")) := by
  obtain ⟨h, X, G, S⟩ := c.ex
  exact He.glo_ok X G (c.fact 39)
theorem C.g__law_cut {K : PySem.W.Frag} {mg : Str → Option Value} (c : C K mg) : mg "_law_cut" = some (.ref (He.ga K "_law_cut")) := by
  obtain ⟨h, X, G, S⟩ := c.ex
  exact He.glo_ok X G (c.fact 40)
theorem C.g__law_dealt {K : PySem.W.Frag} {mg : Str → Option Value} (c : C K mg) : mg "_law_dealt" = some (.ref (He.ga K "_law_dealt")) := by
  obtain ⟨h, X, G, S⟩ := c.ex
  exact He.glo_ok X G (c.fact 41)
theorem C.g__law_dealt_all {K : PySem.W.Frag} {mg : Str → Option Value} (c : C K mg) : mg "_law_dealt_all" = some (.ref (He.ga K "_law_dealt_all")) := by
  obtain ⟨h, X, G, S⟩ := c.ex
  exact He.glo_ok X G (c.fact 42)
theorem C.g__law_denied {K : PySem.W.Frag} {mg : Str → Option Value} (c : C K mg) : mg "_law_denied" = some (.ref (He.ga K "_law_denied")) := by
  obtain ⟨h, X, G, S⟩ := c.ex
  exact He.glo_ok X G (c.fact 43)
theorem C.g__law_dress {K : PySem.W.Frag} {mg : Str → Option Value} (c : C K mg) : mg "_law_dress" = some (.ref (He.ga K "_law_dress")) := by
  obtain ⟨h, X, G, S⟩ := c.ex
  exact He.glo_ok X G (c.fact 44)
theorem C.g__law_dressed {K : PySem.W.Frag} {mg : Str → Option Value} (c : C K mg) : mg "_law_dressed" = some (.ref (He.ga K "_law_dressed")) := by
  obtain ⟨h, X, G, S⟩ := c.ex
  exact He.glo_ok X G (c.fact 45)
theorem C.g__law_edge {K : PySem.W.Frag} {mg : Str → Option Value} (c : C K mg) : mg "_law_edge" = some (.ref (He.ga K "_law_edge")) := by
  obtain ⟨h, X, G, S⟩ := c.ex
  exact He.glo_ok X G (c.fact 46)
theorem C.g__law_free {K : PySem.W.Frag} {mg : Str → Option Value} (c : C K mg) : mg "_law_free" = some (.ref (He.ga K "_law_free")) := by
  obtain ⟨h, X, G, S⟩ := c.ex
  exact He.glo_ok X G (c.fact 47)
theorem C.g__law_gcd {K : PySem.W.Frag} {mg : Str → Option Value} (c : C K mg) : mg "_law_gcd" = some (.ref (He.ga K "_law_gcd")) := by
  obtain ⟨h, X, G, S⟩ := c.ex
  exact He.glo_ok X G (c.fact 48)
theorem C.g__law_index {K : PySem.W.Frag} {mg : Str → Option Value} (c : C K mg) : mg "_law_index" = some (.ref (He.ga K "_law_index")) := by
  obtain ⟨h, X, G, S⟩ := c.ex
  exact He.glo_ok X G (c.fact 49)
theorem C.g__law_inner {K : PySem.W.Frag} {mg : Str → Option Value} (c : C K mg) : mg "_law_inner" = some (.ref (He.ga K "_law_inner")) := by
  obtain ⟨h, X, G, S⟩ := c.ex
  exact He.glo_ok X G (c.fact 50)
theorem C.g__law_is_plan {K : PySem.W.Frag} {mg : Str → Option Value} (c : C K mg) : mg "_law_is_plan" = some (.ref (He.ga K "_law_is_plan")) := by
  obtain ⟨h, X, G, S⟩ := c.ex
  exact He.glo_ok X G (c.fact 51)
theorem C.g__law_lengths {K : PySem.W.Frag} {mg : Str → Option Value} (c : C K mg) : mg "_law_lengths" = some (.ref (He.ga K "_law_lengths")) := by
  obtain ⟨h, X, G, S⟩ := c.ex
  exact He.glo_ok X G (c.fact 52)
theorem C.g__law_low {K : PySem.W.Frag} {mg : Str → Option Value} (c : C K mg) : mg "_law_low" = some (.ref (He.ga K "_law_low")) := by
  obtain ⟨h, X, G, S⟩ := c.ex
  exact He.glo_ok X G (c.fact 53)
theorem C.g__law_minus {K : PySem.W.Frag} {mg : Str → Option Value} (c : C K mg) : mg "_law_minus" = some (.ref (He.ga K "_law_minus")) := by
  obtain ⟨h, X, G, S⟩ := c.ex
  exact He.glo_ok X G (c.fact 54)
theorem C.g__law_misses_on {K : PySem.W.Frag} {mg : Str → Option Value} (c : C K mg) : mg "_law_misses_on" = some (.ref (He.ga K "_law_misses_on")) := by
  obtain ⟨h, X, G, S⟩ := c.ex
  exact He.glo_ok X G (c.fact 55)
theorem C.g__law_mixed {K : PySem.W.Frag} {mg : Str → Option Value} (c : C K mg) : mg "_law_mixed" = some (.ref (He.ga K "_law_mixed")) := by
  obtain ⟨h, X, G, S⟩ := c.ex
  exact He.glo_ok X G (c.fact 56)
theorem C.g__law_most {K : PySem.W.Frag} {mg : Str → Option Value} (c : C K mg) : mg "_law_most" = some (.ref (He.ga K "_law_most")) := by
  obtain ⟨h, X, G, S⟩ := c.ex
  exact He.glo_ok X G (c.fact 57)
theorem C.g__law_no_row {K : PySem.W.Frag} {mg : Str → Option Value} (c : C K mg) : mg "_law_no_row" = some (.ref (He.ga K "_law_no_row")) := by
  obtain ⟨h, X, G, S⟩ := c.ex
  exact He.glo_ok X G (c.fact 58)
theorem C.g__law_on_row {K : PySem.W.Frag} {mg : Str → Option Value} (c : C K mg) : mg "_law_on_row" = some (.ref (He.ga K "_law_on_row")) := by
  obtain ⟨h, X, G, S⟩ := c.ex
  exact He.glo_ok X G (c.fact 59)
theorem C.g__law_one {K : PySem.W.Frag} {mg : Str → Option Value} (c : C K mg) : mg "_law_one" = some (.ref (He.ga K "_law_one")) := by
  obtain ⟨h, X, G, S⟩ := c.ex
  exact He.glo_ok X G (c.fact 60)
theorem C.g__law_passed {K : PySem.W.Frag} {mg : Str → Option Value} (c : C K mg) : mg "_law_passed" = some (.ref (He.ga K "_law_passed")) := by
  obtain ⟨h, X, G, S⟩ := c.ex
  exact He.glo_ok X G (c.fact 61)
theorem C.g__law_plus {K : PySem.W.Frag} {mg : Str → Option Value} (c : C K mg) : mg "_law_plus" = some (.ref (He.ga K "_law_plus")) := by
  obtain ⟨h, X, G, S⟩ := c.ex
  exact He.glo_ok X G (c.fact 62)
theorem C.g__law_power {K : PySem.W.Frag} {mg : Str → Option Value} (c : C K mg) : mg "_law_power" = some (.ref (He.ga K "_law_power")) := by
  obtain ⟨h, X, G, S⟩ := c.ex
  exact He.glo_ok X G (c.fact 63)
theorem C.g__law_rounds {K : PySem.W.Frag} {mg : Str → Option Value} (c : C K mg) : mg "_law_rounds" = some (.ref (He.ga K "_law_rounds")) := by
  obtain ⟨h, X, G, S⟩ := c.ex
  exact He.glo_ok X G (c.fact 64)
theorem C.g__law_same {K : PySem.W.Frag} {mg : Str → Option Value} (c : C K mg) : mg "_law_same" = some (.ref (He.ga K "_law_same")) := by
  obtain ⟨h, X, G, S⟩ := c.ex
  exact He.glo_ok X G (c.fact 65)
theorem C.g__law_shape {K : PySem.W.Frag} {mg : Str → Option Value} (c : C K mg) : mg "_law_shape" = some (.ref (He.ga K "_law_shape")) := by
  obtain ⟨h, X, G, S⟩ := c.ex
  exact He.glo_ok X G (c.fact 66)
theorem C.g__law_store {K : PySem.W.Frag} {mg : Str → Option Value} (c : C K mg) : mg "_law_store" = some (.ref (He.ga K "_law_store")) := by
  obtain ⟨h, X, G, S⟩ := c.ex
  exact He.glo_ok X G (c.fact 67)
theorem C.g__law_sum {K : PySem.W.Frag} {mg : Str → Option Value} (c : C K mg) : mg "_law_sum" = some (.ref (He.ga K "_law_sum")) := by
  obtain ⟨h, X, G, S⟩ := c.ex
  exact He.glo_ok X G (c.fact 68)
theorem C.g__law_tail {K : PySem.W.Frag} {mg : Str → Option Value} (c : C K mg) : mg "_law_tail" = some (.ref (He.ga K "_law_tail")) := by
  obtain ⟨h, X, G, S⟩ := c.ex
  exact He.glo_ok X G (c.fact 69)
theorem C.g__law_take {K : PySem.W.Frag} {mg : Str → Option Value} (c : C K mg) : mg "_law_take" = some (.ref (He.ga K "_law_take")) := by
  obtain ⟨h, X, G, S⟩ := c.ex
  exact He.glo_ok X G (c.fact 70)
theorem C.g__law_texts_b {K : PySem.W.Frag} {mg : Str → Option Value} (c : C K mg) : mg "_law_texts_b" = some (.ref (He.ga K "_law_texts_b")) := by
  obtain ⟨h, X, G, S⟩ := c.ex
  exact He.glo_ok X G (c.fact 71)
theorem C.g__law_told_shares {K : PySem.W.Frag} {mg : Str → Option Value} (c : C K mg) : mg "_law_told_shares" = some (.ref (He.ga K "_law_told_shares")) := by
  obtain ⟨h, X, G, S⟩ := c.ex
  exact He.glo_ok X G (c.fact 72)
theorem C.g__law_wrong {K : PySem.W.Frag} {mg : Str → Option Value} (c : C K mg) : mg "_law_wrong" = some (.ref (He.ga K "_law_wrong")) := by
  obtain ⟨h, X, G, S⟩ := c.ex
  exact He.glo_ok X G (c.fact 73)
theorem C.g_anew {K : PySem.W.Frag} {mg : Str → Option Value} (c : C K mg) : mg "anew" = some (.ref (He.ga K "anew")) := by
  obtain ⟨h, X, G, S⟩ := c.ex
  exact He.glo_ok X G (c.fact 74)
theorem C.g_beginnings_of {K : PySem.W.Frag} {mg : Str → Option Value} (c : C K mg) : mg "beginnings_of" = some (.ref (He.ga K "beginnings_of")) := by
  obtain ⟨h, X, G, S⟩ := c.ex
  exact He.glo_ok X G (c.fact 75)
theorem C.g_check_beginning {K : PySem.W.Frag} {mg : Str → Option Value} (c : C K mg) : mg "check_beginning" = some (.ref (He.ga K "check_beginning")) := by
  obtain ⟨h, X, G, S⟩ := c.ex
  exact He.glo_ok X G (c.fact 76)
theorem C.g_check_count_horizons {K : PySem.W.Frag} {mg : Str → Option Value} (c : C K mg) : mg "check_count_horizons" = some (.ref (He.ga K "check_count")) := by
  obtain ⟨h, X, G, S⟩ := c.ex
  exact (of_decide_eq_true (c.fact2 1) : He.ga K "check_count_horizons" = He.ga K "check_count") ▸ He.glo_ok X G (c.fact 77)
theorem C.g_check_count_rows {K : PySem.W.Frag} {mg : Str → Option Value} (c : C K mg) : mg "check_count_rows" = some (.ref (He.ga K "check_count_rows")) := by
  obtain ⟨h, X, G, S⟩ := c.ex
  exact He.glo_ok X G (c.fact 78)
theorem C.g_check_lengths {K : PySem.W.Frag} {mg : Str → Option Value} (c : C K mg) : mg "check_lengths" = some (.ref (He.ga K "check_lengths")) := by
  obtain ⟨h, X, G, S⟩ := c.ex
  exact He.glo_ok X G (c.fact 79)
theorem C.g_check_row {K : PySem.W.Frag} {mg : Str → Option Value} (c : C K mg) : mg "check_row" = some (.ref (He.ga K "check_row")) := by
  obtain ⟨h, X, G, S⟩ := c.ex
  exact He.glo_ok X G (c.fact 80)
theorem C.g_check_shape {K : PySem.W.Frag} {mg : Str → Option Value} (c : C K mg) : mg "check_shape" = some (.ref (He.ga K "check_shape")) := by
  obtain ⟨h, X, G, S⟩ := c.ex
  exact He.glo_ok X G (c.fact 81)
theorem C.g_check_size {K : PySem.W.Frag} {mg : Str → Option Value} (c : C K mg) : mg "check_size" = some (.ref (He.ga K "check_size")) := by
  obtain ⟨h, X, G, S⟩ := c.ex
  exact He.glo_ok X G (c.fact 82)
theorem C.g_common_divisor {K : PySem.W.Frag} {mg : Str → Option Value} (c : C K mg) : mg "common_divisor" = some (.ref (He.ga K "common_divisor")) := by
  obtain ⟨h, X, G, S⟩ := c.ex
  exact He.glo_ok X G (c.fact 83)
theorem C.g_fraction {K : PySem.W.Frag} {mg : Str → Option Value} (c : C K mg) : mg "fraction" = some (.ref (He.ga K "fraction")) := by
  obtain ⟨h, X, G, S⟩ := c.ex
  exact He.glo_ok X G (c.fact 84)
theorem C.g_has_only {K : PySem.W.Frag} {mg : Str → Option Value} (c : C K mg) : mg "has_only" = some (.ref (He.ga K "has_only")) := by
  obtain ⟨h, X, G, S⟩ := c.ex
  exact He.glo_ok X G (c.fact 85)
theorem C.g_is_integer_value {K : PySem.W.Frag} {mg : Str → Option Value} (c : C K mg) : mg "is_integer_value" = some (.ref (He.ga K "is_integer_value")) := by
  obtain ⟨h, X, G, S⟩ := c.ex
  exact He.glo_ok X G (c.fact 86)
theorem C.g_is_row {K : PySem.W.Frag} {mg : Str → Option Value} (c : C K mg) : mg "is_row" = some (.ref (He.ga K "is_row")) := by
  obtain ⟨h, X, G, S⟩ := c.ex
  exact He.glo_ok X G (c.fact 87)
theorem C.g_is_sharing {K : PySem.W.Frag} {mg : Str → Option Value} (c : C K mg) : mg "is_sharing" = some (.ref (He.ga K "is_sharing")) := by
  obtain ⟨h, X, G, S⟩ := c.ex
  exact He.glo_ok X G (c.fact 88)
theorem C.g_law {K : PySem.W.Frag} {mg : Str → Option Value} (c : C K mg) : mg "law" = some (.ref (He.ga K "law")) := by
  obtain ⟨h, X, G, S⟩ := c.ex
  exact He.glo_ok X G (c.fact 89)
theorem C.g_letters {K : PySem.W.Frag} {mg : Str → Option Value} (c : C K mg) : mg "letters" = some (.ref (He.ga K "letters")) := by
  obtain ⟨h, X, G, S⟩ := c.ex
  exact He.glo_ok X G (c.fact 90)
theorem C.g_miss_steps {K : PySem.W.Frag} {mg : Str → Option Value} (c : C K mg) : mg "miss_steps" = some (.ref (He.ga K "miss_steps")) := by
  obtain ⟨h, X, G, S⟩ := c.ex
  exact He.glo_ok X G (c.fact 91)
theorem C.g_most_rounds {K : PySem.W.Frag} {mg : Str → Option Value} (c : C K mg) : mg "most_rounds" = some (.ref (He.ga K "most_rounds")) := by
  obtain ⟨h, X, G, S⟩ := c.ex
  exact He.glo_ok X G (c.fact 92)
theorem C.g_next_texts {K : PySem.W.Frag} {mg : Str → Option Value} (c : C K mg) : mg "next_texts" = some (.ref (He.ga K "next_texts")) := by
  obtain ⟨h, X, G, S⟩ := c.ex
  exact He.glo_ok X G (c.fact 93)
theorem C.g_opposite {K : PySem.W.Frag} {mg : Str → Option Value} (c : C K mg) : mg "opposite" = some (.ref (He.ga K "opposite")) := by
  obtain ⟨h, X, G, S⟩ := c.ex
  exact He.glo_ok X G (c.fact 94)
theorem C.g_parts_of {K : PySem.W.Frag} {mg : Str → Option Value} (c : C K mg) : mg "parts_of" = some (.ref (He.ga K "parts_of")) := by
  obtain ⟨h, X, G, S⟩ := c.ex
  exact He.glo_ok X G (c.fact 95)
theorem C.g_row_misses {K : PySem.W.Frag} {mg : Str → Option Value} (c : C K mg) : mg "row_misses" = some (.ref (He.ga K "row_misses")) := by
  obtain ⟨h, X, G, S⟩ := c.ex
  exact He.glo_ok X G (c.fact 96)
theorem C.g_share_parts {K : PySem.W.Frag} {mg : Str → Option Value} (c : C K mg) : mg "share_parts" = some (.ref (He.ga K "share_parts")) := by
  obtain ⟨h, X, G, S⟩ := c.ex
  exact He.glo_ok X G (c.fact 97)
theorem C.g_shares_on {K : PySem.W.Frag} {mg : Str → Option Value} (c : C K mg) : mg "shares_on" = some (.ref (He.ga K "shares_on")) := by
  obtain ⟨h, X, G, S⟩ := c.ex
  exact He.glo_ok X G (c.fact 98)
theorem C.g_sharing_at {K : PySem.W.Frag} {mg : Str → Option Value} (c : C K mg) : mg "sharing_at" = some (.ref (He.ga K "sharing_at")) := by
  obtain ⟨h, X, G, S⟩ := c.ex
  exact He.glo_ok X G (c.fact 99)
theorem C.g_stretch_misses {K : PySem.W.Frag} {mg : Str → Option Value} (c : C K mg) : mg "stretch_misses" = some (.ref (He.ga K "stretch_misses")) := by
  obtain ⟨h, X, G, S⟩ := c.ex
  exact He.glo_ok X G (c.fact 100)
theorem C.g_stretch_starts {K : PySem.W.Frag} {mg : Str → Option Value} (c : C K mg) : mg "stretch_starts" = some (.ref (He.ga K "stretch_starts")) := by
  obtain ⟨h, X, G, S⟩ := c.ex
  exact He.glo_ok X G (c.fact 101)
theorem C.g_sub {K : PySem.W.Frag} {mg : Str → Option Value} (c : C K mg) : mg "sub" = some (.ref (He.ga K "sub")) := by
  obtain ⟨h, X, G, S⟩ := c.ex
  exact He.glo_ok X G (c.fact 102)
theorem C.g_sum_of_two {K : PySem.W.Frag} {mg : Str → Option Value} (c : C K mg) : mg "sum_of_two" = some (.ref (He.ga K "sum_of_two")) := by
  obtain ⟨h, X, G, S⟩ := c.ex
  exact He.glo_ok X G (c.fact 103)
theorem C.g_total {K : PySem.W.Frag} {mg : Str → Option Value} (c : C K mg) : mg "total" = some (.ref (He.ga K "total")) := by
  obtain ⟨h, X, G, S⟩ := c.ex
  exact He.glo_ok X G (c.fact 104)
theorem C.mk_Plan {K : PySem.W.Frag} {mg : Str → Option Value} (c : C K mg) : Mk K (He.ga K "Plan") (He.ma K (He.ga K "Plan") "__init__") := He.mkr_ok (c.fact 105)
theorem C.na_BadCount_found {K : PySem.W.Frag} {mg : Str → Option Value} (c : C K mg) : NoAttr K (He.ga K "BadCount") "found" := He.noat_ok (c.fact 106)
theorem C.na_BadCount_high {K : PySem.W.Frag} {mg : Str → Option Value} (c : C K mg) : NoAttr K (He.ga K "BadCount") "high" := He.noat_ok (c.fact 107)
theorem C.na_BadCount_low {K : PySem.W.Frag} {mg : Str → Option Value} (c : C K mg) : NoAttr K (He.ga K "BadCount") "low" := He.noat_ok (c.fact 108)
theorem C.na_BadRow_found {K : PySem.W.Frag} {mg : Str → Option Value} (c : C K mg) : NoAttr K (He.ga K "BadRow") "found" := He.noat_ok (c.fact 109)
theorem C.na_BadShare_at {K : PySem.W.Frag} {mg : Str → Option Value} (c : C K mg) : NoAttr K (He.ga K "BadShare") "at" := He.noat_ok (c.fact 110)
theorem C.na_BadSize_due {K : PySem.W.Frag} {mg : Str → Option Value} (c : C K mg) : NoAttr K (He.ga K "BadSize") "due" := He.noat_ok (c.fact 111)
theorem C.na_BadSize_found {K : PySem.W.Frag} {mg : Str → Option Value} (c : C K mg) : NoAttr K (He.ga K "BadSize") "found" := He.noat_ok (c.fact 112)
theorem C.na_Plan_held_places {K : PySem.W.Frag} {mg : Str → Option Value} (c : C K mg) : NoAttr K (He.ga K "Plan") "held_places" := He.noat_ok (c.fact 113)
theorem C.na_Plan_held_rounds {K : PySem.W.Frag} {mg : Str → Option Value} (c : C K mg) : NoAttr K (He.ga K "Plan") "held_rounds" := He.noat_ok (c.fact 114)
theorem C.na_Plan_held_shares {K : PySem.W.Frag} {mg : Str → Option Value} (c : C K mg) : NoAttr K (He.ga K "Plan") "held_shares" := He.noat_ok (c.fact 115)
theorem C.na_Plan_held_width {K : PySem.W.Frag} {mg : Str → Option Value} (c : C K mg) : NoAttr K (He.ga K "Plan") "held_width" := He.noat_ok (c.fact 116)
theorem C.oi_BadCount {K : PySem.W.Frag} {mg : Str → Option Value} (c : C K mg) : PySem.W.findIn K (.ref (He.ga K "BadCount")) "__init__" = some (some (.ref (He.ma K (He.ga K "BadCount") "__init__"))) ∧ PySem.W.typeIn K (.ref (He.ma K (He.ga K "BadCount") "__init__")) = some (.type "function") := EL.oiB_ok (c.fact2 2)
theorem C.oi_BadRow {K : PySem.W.Frag} {mg : Str → Option Value} (c : C K mg) : PySem.W.findIn K (.ref (He.ga K "BadRow")) "__init__" = some (some (.ref (He.ma K (He.ga K "BadRow") "__init__"))) ∧ PySem.W.typeIn K (.ref (He.ma K (He.ga K "BadRow") "__init__")) = some (.type "function") := EL.oiB_ok (c.fact2 3)
theorem C.oi_BadShare {K : PySem.W.Frag} {mg : Str → Option Value} (c : C K mg) : PySem.W.findIn K (.ref (He.ga K "BadShare")) "__init__" = some (some (.ref (He.ma K (He.ga K "BadShare") "__init__"))) ∧ PySem.W.typeIn K (.ref (He.ma K (He.ga K "BadShare") "__init__")) = some (.type "function") := EL.oiB_ok (c.fact2 4)
theorem C.oi_BadSize {K : PySem.W.Frag} {mg : Str → Option Value} (c : C K mg) : PySem.W.findIn K (.ref (He.ga K "BadSize")) "__init__" = some (some (.ref (He.ma K (He.ga K "BadSize") "__init__"))) ∧ PySem.W.typeIn K (.ref (He.ma K (He.ga K "BadSize") "__init__")) = some (.type "function") := EL.oiB_ok (c.fact2 5)
theorem C.ox_BadCount {K : PySem.W.Frag} {mg : Str → Option Value} (c : C K mg) : OexC K (He.ga K "BadCount") := EL.oexB_ok (c.fact2 6)
theorem C.ox_BadRow {K : PySem.W.Frag} {mg : Str → Option Value} (c : C K mg) : OexC K (He.ga K "BadRow") := EL.oexB_ok (c.fact2 7)
theorem C.ox_BadShare {K : PySem.W.Frag} {mg : Str → Option Value} (c : C K mg) : OexC K (He.ga K "BadShare") := EL.oexB_ok (c.fact2 8)
theorem C.ox_BadSize {K : PySem.W.Frag} {mg : Str → Option Value} (c : C K mg) : OexC K (He.ga K "BadSize") := EL.oexB_ok (c.fact2 9)
theorem C.pr_Plan_rounds {K : PySem.W.Frag} {mg : Str → Option Value} (c : C K mg) : PropOf K (He.ga K "Plan") "rounds" (He.ma K (He.ga K "Plan") "rounds") (He5.wf K (He.ga K "Plan") "property" "rounds") := EL.propB_ok (c.fact2 10)
theorem C.pr_Plan_shares {K : PySem.W.Frag} {mg : Str → Option Value} (c : C K mg) : PropOf K (He.ga K "Plan") "shares" (He.ma K (He.ga K "Plan") "shares") (He5.wf K (He.ga K "Plan") "property" "shares") := EL.propB_ok (c.fact2 11)
theorem C.pr_Plan_width {K : PySem.W.Frag} {mg : Str → Option Value} (c : C K mg) : PropOf K (He.ga K "Plan") "width" (He.ma K (He.ga K "Plan") "width") (He5.wf K (He.ga K "Plan") "property" "width") := EL.propB_ok (c.fact2 12)
theorem C.r_MOST_ROUNDS {K : PySem.W.Frag} {mg : Str → Option Value} (c : C K mg) (H : Hp) : Rep K H (.ref (He.ga K "MOST_ROUNDS")) (.tup [.int (8), .int (8), .int (5), .int (4), .int (3)]) := .tup (He.tupB_ok (c.fact2 13) H) (by repeat first | exact .nil | apply RepL.cons | exact .int | exact .str)
theorem C.r_WHOLE_SHARE {K : PySem.W.Frag} {mg : Str → Option Value} (c : C K mg) (H : Hp) : Rep K H (.ref (He.ga K "WHOLE_SHARE")) (.tup [.int (1), .int (1)]) := .tup (He.tupB_ok (c.fact2 14) H) (by repeat first | exact .nil | apply RepL.cons | exact .int | exact .str)
theorem C.v_MOST_LENGTH {K : PySem.W.Frag} {mg : Str → Option Value} (c : C K mg) : ∃ t, mg "MOST_LENGTH" = some (.int (8) t) := by
  obtain ⟨h, X, G, S⟩ := c.ex
  exact He.int_ok X G (c.fact 117)
theorem C.v_OUTCOMES {K : PySem.W.Frag} {mg : Str → Option Value} (c : C K mg) : ∃ t, mg "OUTCOMES" = some (.str "01234" t) := by
  obtain ⟨h, X, G, S⟩ := c.ex
  exact He.str_ok X G (c.fact 118)
theorem C.v_WIDEST {K : PySem.W.Frag} {mg : Str → Option Value} (c : C K mg) : ∃ t, mg "WIDEST" = some (.int (5) t) := by
  obtain ⟨h, X, G, S⟩ := c.ex
  exact He.int_ok X G (c.fact 119)
theorem C.x_BadNumber {K : PySem.W.Frag} {mg : Str → Option Value} (c : C K mg) : (He.Fa.exc "BadNumber").ok K = true := c.fact 120
theorem C.x_Mismatch {K : PySem.W.Frag} {mg : Str → Option Value} (c : C K mg) : (He.Fa.exc "Mismatch").ok K = true := c.fact 121
theorem C.kits {K : PySem.W.Frag} {mg : Str → Option Value} (c : C K mg) (cn : Str) (h : cn ∈ Cs) : kitsB K cn allx = true := List.all_eq_true.mp (c.fact2 15) cn h
theorem C.kitv {K : PySem.W.Frag} {mg : Str → Option Value} (c : C K mg) (cn : Str) (h : cn ∈ Cs) : kitT K cn "ValueError" = true := List.all_eq_true.mp (c.fact2 16) cn h
theorem C.xcf {K : PySem.W.Frag} {mg : Str → Option Value} (c : C K mg) (cn : Str) (h : cn ∈ Cs) : XcF K cn := xcB_ok (List.all_eq_true.mp (c.fact2 17) cn h)
theorem C.exmx {K : PySem.W.Frag} {mg : Str → Option Value} (c : C K mg) (cn : Str) (h : cn ∈ Cs) : PySem.W.exmOne K (.ref (He.ga K cn)) (.ref (He.ga K "NotBehindError")) = some true := of_decide_eq_true (List.all_eq_true.mp (c.fact2 18) cn h)
theorem C.xno {K : PySem.W.Frag} {mg : Str → Option Value} (c : C K mg) (cn : Str) (h : cn ∈ Cs) (f : Str) (hf : f ∈ (["found", "high", "low"] : List Str)) : PySem.W.findIn K (.ref (He.ga K cn)) f = some none := of_decide_eq_true (List.all_eq_true.mp (List.all_eq_true.mp (c.fact2 19) cn h) f hf)
theorem C.lamU {K : PySem.W.Frag} {mg : Str → Option Value} (c : C K mg) {q r : Addr × Str} (hq : q ∈ lamT K) (hr : r ∈ lamT K) (e : q.1 = r.1) : q.2 = r.2 := (by
  have z := List.all_eq_true.mp (List.all_eq_true.mp (c.fact2 20) q hq) r hr
  rw [decide_eq_true e] at z
  exact of_decide_eq_true z)
theorem lt_law_wrong {K : PySem.W.Frag} {mg : Str → Option Value} {base : Heap} (tb : TBs K mg base) : LamX.TabB base mg (EL.ctA K (He.ga K "_law_wrong")).1 (EL.ctA K (He.ga K "_law_wrong")).2 := tb _ (List.mem_map.mpr ⟨"_law_wrong", by decide, rfl⟩)
theorem lu_law_wrong {K : PySem.W.Frag} {mg : Str → Option Value} (c : C K mg) : ((EL.ctA K (He.ga K "_law_wrong")).2, (("_law_wrong" : Str) ++ ".<locals>.") ++ "<lambda>") ∈ lamT K ∧ ∀ q ∈ lamT K, q.1 = (EL.ctA K (He.ga K "_law_wrong")).2 → q.2 = (("_law_wrong" : Str) ++ ".<locals>.") ++ "<lambda>" :=
  have h : ((EL.ctA K (He.ga K "_law_wrong")).2, (("_law_wrong" : Str) ++ ".<locals>.") ++ "<lambda>") ∈ lamT K := List.mem_map.mpr ⟨"_law_wrong", by decide, rfl⟩
  ⟨h, fun q hq e => c.lamU hq h e⟩
end LK
set_option Elab.async false
set_option linter.all false
set_option maxRecDepth 100000
set_option maxHeartbeats 0
namespace LK
open PySem PySem.W PySem.Calls PyProof.Rows
def names0 : List PySem.Str := ["NotBehindError", "BadNumber", "DivisionByZero", "BadCount", "BadSize", "BadName", "BadText", "BadRow", "BadShare", "BadWeight", "Mismatch", "NoHelper", "NotExact", "Lacking", "GameOver", "NothingToTakeBack", "UnknownName", "TakenName", "WrongKind", "InUse", "is_integer_value", "parts_of", "common_divisor", "fraction", "sum_of_two", "opposite", "sub", "total", "OUTCOMES", "WIDEST"]
def names1 : List PySem.Str := ["MOST_ROUNDS", "check_count", "check_count_rows", "check_shape", "has_only", "next_texts", "most_rounds", "letters", "is_row", "beginnings_of", "WHOLE_SHARE", "check_size", "check_beginning", "share_parts", "is_sharing", "sharing_at", "Plan", "check_row", "shares_on", "row_misses", "miss_steps", "MOST_LENGTH", "check_count_horizons", "check_lengths", "stretch_misses", "stretch_starts", "anew", "_law_store", "_law_mixed", "_law_take"]
def names2 : List PySem.Str := ["_law_edge", "_law_power", "_law_gcd", "_law_low", "_law_plus", "_law_minus", "_law_sum", "_law_dress", "_law_dressed", "_law_bad_count", "_law_same", "_law_most", "_law_shape", "_law_rounds", "_law_texts_b", "_law_inner", "_law_index", "_law_free", "_law_told_shares", "_law_misses_on", "_law_is_plan", "_law_lengths", "_law_bad_lengths", "_law_classes", "_law_denied", "_law_dealt", "_law_dealt_all", "_law_no_row", "_law_passed", "_law_cut"]
def names3 : List PySem.Str := ["_law_tail", "_law_one", "_law_on_row", "_law_wrong"]
def names : List PySem.Str := names0 ++ names1 ++ names2 ++ names3
theorem run (w : World) : HandSHeadRun.RunEq R (PySem.W.view R.prog [102]) (EL.hook exb fn tf) (EL.obsT exb fn tf) 20000 names w := by
  intro os
  kernel_rfl
end LK
set_option Elab.async false
set_option linter.all false
set_option maxRecDepth 100000
set_option maxHeartbeats 4000000
/-! Plain layer, part A: how readings are stepped. -/
namespace DL
open PySem PySem.Spec PyProof.Rows L2

/-- the rest of a body, not yet looked at (a structure: the kernel must not unfold it) -/
structure hold (u : DTS) (D : DEnds) (ds : DSt) (M : Mm) : Prop where
  un : u D ds M
theorem hold_i {u : DTS} {D : DEnds} {ds : DSt} {M : Mm} (h : u D ds M) : hold u D ds M := ⟨h⟩
theorem hold_eq {u : DTS} {D : DEnds} : hold u D = u D := funext fun _ => funext fun _ => propext ⟨fun h => h.un, fun h => ⟨h⟩⟩
theorem nr {α : Sort _} {a b : α} (h : a = b) : a = b := h
theorem up_of {f : DSp} {xs : List Dt} {M : Mm} {Q : DQ} {X : DX} (h : f xs M Q X) : upQ f xs M Q X := ⟨Q, fun _ _ z => z, h⟩
theorem up_q {f : DSp} {xs : List Dt} {M : Mm} {Q : DQ} {X : DX} (R : DQ) (h : f xs M R X) (hq : ∀ x M', R x M' → Q x M') : upQ f xs M Q X := ⟨R, hq, h⟩

section
variable {D : DEnds} {ds : DSt} {M : Mm} {Q : DQ} {X : DX}
theorem q_sp {n N : Nat} {b : DX → DTS} {xs : List Dt} : spD n N b xs M Q X = (xs.length = n ∧ b X ⟨fun _ M1 => Q .non M1, Q, fun _ _ => False, fun _ _ => False⟩ (dstart N xs) M) := nr rfl
theorem q_st_c {n : Nat} {x : Dt} {r : List Dt} : dstart (n + 1) (x :: r) = some x :: dstart n r := by
  unfold dstart
  rw [List.map_cons, List.length_cons, Nat.add_sub_add_right]; rfl
theorem q_st_n {n : Nat} : dstart (n + 1) [] = none :: dstart n [] := nr rfl
theorem q_st_0 : dstart 0 [] = [] := nr rfl
theorem q_seq {t u : DTS} {n : DSt → Mm → Prop} {r : DQ} {b c : DSt → Mm → Prop} : dSeq t u ⟨n, r, b, c⟩ ds M = t ⟨hold u ⟨n, r, b, c⟩, r, b, c⟩ ds M := by rw [hold_eq]; rfl
theorem q_next {n : DSt → Mm → Prop} {r : DQ} {b c : DSt → Mm → Prop} : dNext ⟨n, r, b, c⟩ ds M = n ds M := nr rfl
theorem q_drop {t : DTE} {n : DSt → Mm → Prop} {r : DQ} {b c : DSt → Mm → Prop} : dDrop t ⟨n, r, b, c⟩ ds M = t ds M fun _ M1 => n ds M1 := nr rfl
theorem q_ret {t : DTE} {n : DSt → Mm → Prop} {r : DQ} {b c : DSt → Mm → Prop} : dRet t ⟨n, r, b, c⟩ ds M = t ds M r := nr rfl
theorem q_retN {n : DSt → Mm → Prop} {r : DQ} {b c : DSt → Mm → Prop} : dRetN ⟨n, r, b, c⟩ ds M = r .non M := nr rfl
theorem q_ifS {c : DTT} {t u : DTS} : dIfS c t u D ds M = c ds M fun b M1 => if b = true then t D ds M1 else u D ds M1 := nr rfl
theorem q_break {n : DSt → Mm → Prop} {r : DQ} {b c : DSt → Mm → Prop} : dBreak ⟨n, r, b, c⟩ ds M = b ds M := nr rfl
theorem q_cont {n : DSt → Mm → Prop} {r : DQ} {b c : DSt → Mm → Prop} : dCont ⟨n, r, b, c⟩ ds M = c ds M := nr rfl
theorem q_asg {t : DTE} {g : DTG} {n : DSt → Mm → Prop} {r : DQ} {b c : DSt → Mm → Prop} : dAsg t g ⟨n, r, b, c⟩ ds M = t ds M fun x M1 => g x ds M1 n := nr rfl
theorem q_par {t : DTA} {i j : Nat} {n : DSt → Mm → Prop} {r : DQ} {b c : DSt → Mm → Prop} : dPar i j t ⟨n, r, b, c⟩ ds M = t ds M fun vs M1 => match vs with
  | [v, w] => n ((ds.set i (some v)).set j (some w)) M1
  | _ => False := nr rfl
theorem q_name {i : Nat} {x : Dt} {P : DSt → Mm → Prop} : dName i x ds M P = P (ds.set i (some x)) M := nr rfl
theorem q_gnil {P : DSt → Mm → Prop} : dGNil [] ds M P = P ds M := by unfold dGNil; simp only [true_and]
theorem q_gcons {t : DTG} {u : DTGs} {x : Dt} {r : List Dt} {P : DSt → Mm → Prop} : dGCons t u (x :: r) ds M P = t x ds M fun ds' M' => u r ds' M' P := nr rfl
theorem q_gtup {n : Nat} {t : DTGs} {xs : List Dt} {P : DSt → Mm → Prop} : dGTup n t (.tup xs) ds M P = (xs.length = n ∧ t xs ds M P) := nr rfl
theorem q_for {w : DTI} {g : DTG} {b : DTS} : dFor w g b D ds M = w ds M fun I M1 => dForL g b D I.still I.items ds M1 := nr rfl
theorem q_var0 {d : Dt} {r : DSt} : dVar 0 (some d :: r) M Q = Q d M := nr rfl
theorem q_varS {i : Nat} {x : Option Dt} {r : DSt} : dVar (i + 1) (x :: r) M Q = dVar i r M Q := nr rfl
theorem q_c {d : Dt} : dC d ds M Q = Q d M := nr rfl
theorem q_nil {P : List Dt → Mm → Prop} : dNil ds M P = P [] M := nr rfl
theorem q_cons {a : DTE} {r : DTA} {P : List Dt → Mm → Prop} : dCons a r ds M P = a ds M fun x M1 => r ds M1 fun xs M2 => P (x :: xs) M2 := nr rfl
theorem q_tup {t : DTA} : dTup t ds M Q = t ds M fun xs M1 => xs.length ≤ sizeLine ∧ Q (.tup xs) M1 := nr rfl
theorem q_lst {m : Bool} {t : DTA} : dLst m t ds M Q = t ds M fun xs M1 => xs.length ≤ sizeLine ∧ newL m xs M1 Q := nr rfl
theorem q_newF {xs : List Dt} : newL false xs M Q = Q (.lst xs) M := nr rfl
theorem q_newT {xs : List Dt} : newL true xs M Q = ∀ p, M p = none → Q (.cel p) (mput M p (.lst xs)) := nr rfl
theorem q_op {r : DR2} {a b : DTE} : dOp r a b ds M Q = a ds M fun x M1 => b ds M1 fun y M2 => r x y M2 Q := nr rfl
theorem q_test {t : DTE} {P : Bool → Mm → Prop} : dTest t ds M P = t ds M fun x M' => match x with
  | .bl k => P k M'
  | _ => False := nr rfl
theorem q_and {t u : DTT} {P : Bool → Mm → Prop} : dAnd t u ds M P = t ds M fun c M1 => if c = true then u ds M1 P else P false M1 := nr rfl
theorem q_or {t u : DTT} {P : Bool → Mm → Prop} : dOr t u ds M P = t ds M fun c M1 => if c = true then P true M1 else u ds M1 P := nr rfl
theorem q_not {t : DTT} {P : Bool → Mm → Prop} : dNot t ds M P = t ds M fun c M1 => P (!c) M1 := nr rfl
theorem q_andV {a b : DTE} : dAndV a b ds M Q = a ds M fun x M1 => match x with
  | .bl true => b ds M1 Q
  | .bl false => Q (.bl false) M1
  | _ => False := nr rfl
theorem q_orV {a b : DTE} : dOrV a b ds M Q = a ds M fun x M1 => match x with
  | .bl true => Q (.bl true) M1
  | .bl false => b ds M1 Q
  | _ => False := nr rfl
theorem q_notV {a : DTE} : dNotV a ds M Q = a ds M fun x M1 => match x with
  | .bl b => Q (.bl (!b)) M1
  | _ => False := nr rfl
theorem q_if {t : DTT} {a b : DTE} : dIf t a b ds M Q = t ds M fun c M1 => if c = true then a ds M1 Q else b ds M1 Q := nr rfl
theorem q_call {f : DSp} {dd : List Dt} {XX : DX} {t : DTA} : dCall f dd XX t ds M Q = t ds M fun xs M1 => upQ f (xs ++ dd) M1 Q XX := nr rfl
theorem q_callK {f : DSp} {n m : Nat} {XX : DX} {t u : DTA} : dCallK f n m XX t u ds M Q = t ds M fun xs M1 => u ds M1 fun zs M2 => xs.length = n ∧ zs.length = m ∧ upQ f (xs ++ zs) M2 Q XX := nr rfl
theorem q_cb {r : DRC} {t : DTA} : dCB r t ds M Q = t ds M fun xs M1 => r xs M1 Q := nr rfl
theorem q_bm {T : String} {r : DRM} {to : DTE} {t : DTA} : dBM T r to t ds M Q = to ds M fun x M1 => isTyM T x M1 ∧ t ds M1 fun xs M2 => r x xs M2 Q := nr rfl
theorem q_bm0 {T : String} {r : DRM} {to : DTE} : dBM0 T r to ds M Q = to ds M fun x M1 => isTyM T x M1 ∧ r x [] M1 Q := nr rfl
theorem q_frz {t : DTE} : dFrz t ds M Q = t ds M fun x M1 => ∃ a xs, x = .cel a ∧ M1 a = some (.lst xs) ∧ Q (.lst xs) (mdel M1 a) := nr rfl
theorem q_frzC {a : Addr} : (∃ b xs, (.cel a : Dt) = .cel b ∧ M b = some (.lst xs) ∧ Q (.lst xs) (mdel M b)) ↔ ∃ xs, M a = some (.lst xs) ∧ Q (.lst xs) (mdel M a) := by
  constructor
  · rintro ⟨b, xs, e, h⟩; cases e; exact ⟨xs, h⟩
  · rintro ⟨xs, h⟩; exact ⟨a, xs, rfl, h⟩
theorem q_neg {t : DTE} : dNeg t ds M Q = t ds M fun x M1 => match x with
  | .int i => Q (.int (-i)) M1
  | _ => False := nr rfl
theorem q_sub {to ti : DTE} {v : Dt} {P : DSt → Mm → Prop} : dSub to ti v ds M P = to ds M fun o M1 => ti ds M1 fun i M2 => ∃ p xs k j, o = .cel p ∧ i = .int k ∧ M2 p = some (.lst xs) ∧ ixN xs.length k = some j ∧ P ds (mput M2 p (.lst (xs.set j v))) := nr rfl
theorem q_subC {a : Addr} {i : Int} {v : Dt} {P : DSt → Mm → Prop} : (∃ p xs k j, (.cel a : Dt) = .cel p ∧ (.int i : Dt) = .int k ∧ M p = some (.lst xs) ∧ ixN xs.length k = some j ∧ P ds (mput M p (.lst (xs.set j v)))) ↔
    ∃ xs j, M a = some (.lst xs) ∧ ixN xs.length i = some j ∧ P ds (mput M a (.lst (xs.set j v))) := by
  constructor
  · rintro ⟨p, xs, k, j, e1, e2, h⟩; cases e1; cases e2; exact ⟨xs, j, h⟩
  · rintro ⟨xs, j, h⟩; exact ⟨a, xs, i, j, rfl, rfl, h⟩
theorem q_lc {m : Bool} {w : DTI} {g : DTG} {tt : DTT} {te : DTE} {vs : List Nat} : dLc m w g tt te vs ds M Q = w ds M fun I M1 => dLcL g tt te I.still (wipeD ds vs) (fun acc M2 => newL m acc M2 Q) I.items [] M1 := nr rfl
theorem q_lc2 {m : Bool} {w w1 : DTI} {g g1 : DTG} {tt tt1 : DTT} {te : DTE} {vs vs1 : List Nat} : dLc2 m w g tt w1 g1 tt1 te vs vs1 ds M Q = w ds M fun I M1 => dLc2L g tt w1 g1 tt1 te vs1 I.still (wipeD ds vs) (fun acc M2 => newL m acc M2 Q) I.items [] M1 := nr rfl
theorem q_dc {w : DTI} {g : DTG} {tk tv : DTE} {vs : List Nat} : dDc w g tk tv vs ds M Q = w ds M fun I M1 => dDcL g tk tv I.still (wipeD ds vs) (fun acc M2 => Q (.dic acc) M2) I.items [] M1 := nr rfl
theorem q_yes {P : Bool → Mm → Prop} : dYes ds M P = P true M := nr rfl
theorem q_wipe0 : wipeD ds [] = ds := nr rfl
theorem q_wipeS {v : Nat} {vs : List Nat} : wipeD ds (v :: vs) = (wipeD ds vs).set v none := nr rfl
theorem q_sl {m : Bool} {t : DTE} {l u : DTO} : dSl m t l u ds M Q = t ds M fun x M1 => l ds M1 fun lo M2 => u ds M2 fun hi M3 => dCut m x lo hi M3 Q := nr rfl
theorem q_noPart {P : Option Int → Mm → Prop} : dNoPart ds M P = P none M := nr rfl
theorem q_part {t : DTE} {P : Option Int → Mm → Prop} : dPart t ds M P = t ds M fun x M1 => match x with
  | .int i => P (some i) M1
  | _ => False := nr rfl
theorem q_cutS {m : Bool} {z : Str} {lo hi : Option Int} : dCut m (.str z) lo hi M Q = (z.length ≤ sizeLine ∧ Q (.str (cutS z lo hi)) M) := nr rfl
theorem q_cutT {m : Bool} {xs : List Dt} {lo hi : Option Int} : dCut m (.tup xs) lo hi M Q = Q (.tup (cutD xs lo hi)) M := nr rfl
theorem q_cutL {m : Bool} {xs : List Dt} {lo hi : Option Int} : dCut m (.lst xs) lo hi M Q = newL m (cutD xs lo hi) M Q := nr rfl
theorem q_cutC {m : Bool} {a : Addr} {lo hi : Option Int} : dCut m (.cel a) lo hi M Q = match rview M (.cel a) with
    | some xs => newL m (cutD xs lo hi) M Q
    | none => False := nr rfl
theorem q_rvC {a : Addr} : rview M (.cel a) = match M a with
    | some (.lst xs) => some xs
    | _ => none := nr rfl
theorem q_rvL {xs : List Dt} : rview M (.lst xs) = some xs := nr rfl
theorem q_lvC {a : Addr} : lview M (.cel a) = match M a with
    | some (.lst xs) => some xs
    | _ => none := nr rfl
theorem q_lvL {xs : List Dt} : lview M (.lst xs) = some xs := nr rfl
theorem q_clC {a : Addr} : cellL M (.cel a) = match M a with
    | some (.lst xs) => some (a, xs)
    | _ => none := nr rfl
theorem q_sqT {xs : List Dt} : seqD M (.tup xs) = some xs := nr rfl
theorem q_sqL {xs : List Dt} : seqD M (.lst xs) = some xs := nr rfl
theorem q_sqC {a : Addr} : seqD M (.cel a) = match M a with
    | some (.lst xs) => some xs
    | _ => none := nr rfl
/-! operators -/
theorem q_addI {m : Bool} {i j : Int} : dAddR m (.int i) (.int j) M Q = Q (.int (i + j)) M := by
  refine propext ⟨fun h => ?_, fun h => .inl h⟩
  rcases h with h | h | h | h
  · exact h
  · exact h.elim
  · exact h.elim
  · exact h.elim
theorem q_addS {m : Bool} {i j : Str} : dAddR m (.str i) (.str j) M Q = (i.length + j.length ≤ sizeLine ∧ Q (.str (i ++ j)) M) := by
  refine propext ⟨fun h => ?_, fun h => .inr (.inl h)⟩
  rcases h with h | h | h | h
  · exact h.elim
  · exact h
  · exact h.elim
  · exact h.elim
theorem q_addT {m : Bool} {i j : List Dt} : dAddR m (.tup i) (.tup j) M Q = (i.length + j.length ≤ sizeLine ∧ Q (.tup (i ++ j)) M) := by
  refine propext ⟨fun h => ?_, fun h => .inr (.inr (.inl h))⟩
  rcases h with h | h | h | h
  · exact h.elim
  · exact h.elim
  · exact h
  · exact h.elim
theorem q_addL {m : Bool} {i j : List Dt} : dAddR m (.lst i) (.lst j) M Q = (i.length + j.length ≤ sizeLine ∧ newL m (i ++ j) M Q) := by
  refine propext ⟨fun h => ?_, fun h => .inr (.inr (.inr h))⟩
  rcases h with h | h | h | h
  · exact h.elim
  · exact h.elim
  · exact h.elim
  · exact h
theorem q_subI {i j : Int} : dSubR (.int i) (.int j) M Q = Q (.int (i - j)) M := nr rfl
theorem q_mulI {m : Bool} {i j : Int} : dMulR m (.int i) (.int j) M Q = (CM i j ∧ Q (.int (i * j)) M) := by
  refine propext ⟨fun h => ?_, fun h => .inl h⟩
  rcases h with h | h
  · exact h
  · exact h.elim
theorem q_divI {i j : Int} : dDivR (.int i) (.int j) M Q = (CDivW i j ∧ Q (.int (i / j)) M) := nr rfl
theorem q_modI {i j : Int} : dModR (.int i) (.int j) M Q = (0 < j ∧ Q (.int (i % j)) M) := nr rfl
theorem q_powI {i j : Int} : dPowR (.int i) (.int j) M Q = (CPow i j ∧ Q (.int (i ^ j.toNat)) M) := nr rfl
theorem q_cmpI {p : Int → Int → Bool} {i j : Int} : dCmpI p (.int i) (.int j) M Q = Q (.bl (p i j)) M := nr rfl
theorem q_eqS {m : Dt} {k : Dt} {b : Bool} (e : scalD m k = some b) (h : Q (.bl b) M) : dEqR m k M Q := by
  refine .inl ?_
  show (match scalD m k with | some k => Q (.bl k) M | none => False)
  rw [e]; exact h
theorem beq_dec {α : Type} [BEq α] [LawfulBEq α] [DecidableEq α] (x y : α) : (x == y) = decide (x = y) := by
  by_cases h : x = y
  · subst h; simp
  · simp [h]
theorem q_eqI {i j : Int} : dEqR (.int i) (.int j) M Q = Q (.bl (decide (i = j))) M := by
  refine propext ⟨fun h => ?_, fun h => .inl h⟩
  rcases h with h | ⟨_, _, h⟩
  · exact h
  · have e : PyData.eqv (.int i) (.int j) = decide (i = j) := by simp only [PyData.eqv]; exact beq_dec _ _
    rw [e] at h; exact h
theorem q_neI {i j : Int} : dNeR (.int i) (.int j) M Q = Q (.bl (!decide (i = j))) M := by
  refine propext ⟨fun h => ?_, fun h => .inl h⟩
  rcases h with h | ⟨_, _, h⟩
  · exact h
  · have e : PyData.eqv (.int i) (.int j) = decide (i = j) := by simp only [PyData.eqv]; exact beq_dec _ _
    rw [e] at h; exact h
theorem q_eqStr {i j : Str} : dEqR (.str i) (.str j) M Q = Q (.bl (decide (i = j))) M := by
  refine propext ⟨fun h => ?_, fun h => .inl h⟩
  rcases h with h | ⟨_, _, h⟩
  · exact h
  · have e : PyData.eqv (.str i) (.str j) = decide (i = j) := by simp only [PyData.eqv]; exact beq_dec _ _
    rw [e] at h; exact h
theorem q_isN {x : Dt} : dIsN x .non M Q = Q (.bl (isNon x)) M := nr rfl
theorem q_notN {x : Dt} : dNotN x .non M Q = Q (.bl (!isNon x)) M := nr rfl
theorem q_ixT {xs : List Dt} {i : Int} : dIx (.tup xs) (.int i) M Q = match atI xs i with
    | some d => Q d M
    | none => False := by
  refine propext ⟨fun h => ?_, fun h => .inr (.inl h)⟩
  rcases h with h | h | h
  · exact h.elim
  · exact h
  · exact h.elim
theorem q_ixL {xs : List Dt} {i : Int} : dIx (.lst xs) (.int i) M Q = match atI xs i with
    | some d => Q d M
    | none => False := by
  refine propext ⟨fun h => ?_, fun h => .inl h⟩
  rcases h with h | h | h
  · exact h
  · exact h.elim
  · exact h.elim
theorem q_ixC {a : Addr} {i : Int} : dIx (.cel a) (.int i) M Q = match rview M (.cel a) with
    | some xs => (match atI xs i with
      | some d => Q d M
      | none => False)
    | none => False := by
  refine propext ⟨fun h => ?_, fun h => .inl ?_⟩
  · rcases h with h | h | h
    · have h' : (match rview M (.cel a), (.int i : Dt) with | some xs, .int i => (match atI xs i with | some d => Q d M | none => False) | _, _ => False) := h
      cases e : rview M (.cel a) with
      | none => rw [e] at h'; exact h'
      | some xs => rw [e] at h'; exact h'
    · exact h.elim
    · exact h.elim
  · show (match rview M (.cel a), (.int i : Dt) with | some xs, .int i => (match atI xs i with | some d => Q d M | none => False) | _, _ => False)
    cases e : rview M (.cel a) with
    | none => rw [e] at h; exact h
    | some xs => rw [e] at h; exact h
theorem q_ixS {z : Str} {i : Int} : dIx (.str z) (.int i) M Q = match atI z.cps.toList i with
    | some c => z.length ≤ sizeLine ∧ Q (.str ⟨#[c]⟩) M
    | none => False := by
  refine propext ⟨fun h => ?_, fun h => .inr (.inr h)⟩
  rcases h with h | h | h
  · exact h.elim
  · exact h.elim
  · exact h
theorem q_at0 {α : Type} {x : α} {r : List α} : atI (x :: r) 0 = some x := by
  unfold atI ixN
  rw [if_pos (by decide), if_pos (by simp only [List.length_cons]; omega)]
  rfl
theorem atI_of {α : Type} {xs : List α} {n : Nat} {d : α} (h : xs[n]? = some d) : atI xs (n : Int) = some d := by
  have hl : n < xs.length := by
    rcases Nat.lt_or_ge n xs.length with z | z
    · exact z
    · rw [List.getElem?_eq_none z] at h; cases h
  unfold atI ixN
  rw [if_pos (by omega), if_pos (by omega)]
  exact h
theorem q_at1 {α : Type} {x0 x1 : α} {r : List α} : atI (x0 :: x1 :: r) 1 = some x1 := atI_of (n := 1) rfl
theorem q_at2 {α : Type} {x0 x1 x2 : α} {r : List α} : atI (x0 :: x1 :: x2 :: r) 2 = some x2 := atI_of (n := 2) rfl
theorem q_at3 {α : Type} {x0 x1 x2 x3 : α} {r : List α} : atI (x0 :: x1 :: x2 :: x3 :: r) 3 = some x3 := atI_of (n := 3) rfl
theorem q_at4 {α : Type} {x0 x1 x2 x3 x4 : α} {r : List α} : atI (x0 :: x1 :: x2 :: x3 :: x4 :: r) 4 = some x4 := atI_of (n := 4) rfl
theorem q_at5 {α : Type} {x0 x1 x2 x3 x4 x5 : α} {r : List α} : atI (x0 :: x1 :: x2 :: x3 :: x4 :: x5 :: r) 5 = some x5 := atI_of (n := 5) rfl
theorem q_at6 {α : Type} {x0 x1 x2 x3 x4 x5 x6 : α} {r : List α} : atI (x0 :: x1 :: x2 :: x3 :: x4 :: x5 :: x6 :: r) 6 = some x6 := atI_of (n := 6) rfl
theorem q_at7 {α : Type} {x0 x1 x2 x3 x4 x5 x6 x7 : α} {r : List α} : atI (x0 :: x1 :: x2 :: x3 :: x4 :: x5 :: x6 :: x7 :: r) 7 = some x7 := atI_of (n := 7) rfl
theorem q_at8 {α : Type} {x0 x1 x2 x3 x4 x5 x6 x7 x8 : α} {r : List α} : atI (x0 :: x1 :: x2 :: x3 :: x4 :: x5 :: x6 :: x7 :: x8 :: r) 8 = some x8 := atI_of (n := 8) rfl
theorem q_at9 {α : Type} {x0 x1 x2 x3 x4 x5 x6 x7 x8 x9 : α} {r : List α} : atI (x0 :: x1 :: x2 :: x3 :: x4 :: x5 :: x6 :: x7 :: x8 :: x9 :: r) 9 = some x9 := atI_of (n := 9) rfl
/-! built-ins -/
theorem q_len {x : Dt} : dLen [x] M Q = match lenD M x with
    | some n => Q (.int (n : Int)) M
    | none => False := nr rfl
theorem q_lenT {xs : List Dt} : lenD M (.tup xs) = some xs.length := nr rfl
theorem q_lenL {xs : List Dt} : lenD M (.lst xs) = some xs.length := nr rfl
theorem q_lenC {a : Addr} : lenD M (.cel a) = (rview M (.cel a)).map List.length := nr rfl
theorem q_lenS {z : Str} : lenD M (.str z) = if z.length ≤ sizeLine then some z.length else none := nr rfl
theorem q_sum {x : Dt} : dSum [x] M Q = match (rview M x).bind intsD with
    | some ns => Q (.int ns.sum) M
    | none => False := nr rfl
theorem q_sumA {x : Dt} : dSumA [x] M Q = match (seqD M x).bind intsD with
    | some ns => Q (.int ns.sum) M
    | none => False := nr rfl
theorem q_intI {i : Int} : dInt [.int i] M Q = Q (.int i) M := nr rfl
theorem q_intS {a : Str} : dInt [.str a] M Q = ∃ n, PySem.intText? a = some n ∧ a.length ≤ 640 ∧ Q (.int n) M := nr rfl
theorem q_str {i : Int} : dStr [.int i] M Q = (i.natAbs.log2 < 1920 ∧ Q (.str (toString i)) M) := nr rfl
theorem q_abs {i : Int} : dAbs [.int i] M Q = Q (.int (if i < 0 then -i else i)) M := nr rfl
theorem q_max {i j : Int} : dMM (fun i j => if j > i then j else i) [.int i, .int j] M Q = Q (.int (if j > i then j else i)) M := nr rfl
theorem q_min {i j : Int} : dMM (fun i j => if j < i then j else i) [.int i, .int j] M Q = Q (.int (if j < i then j else i)) M := nr rfl
theorem q_list {m : Bool} {x : Dt} : dList m [x] M Q = match seqD M x with
    | some l => newL m l M Q
    | none => False := nr rfl
theorem q_tuple {x : Dt} : dTuple [x] M Q = match seqD M x with
    | some l => Q (.tup l) M
    | none => False := nr rfl
theorem q_isi {T : String} {t : DTE} : dIsi T t ds M Q = t ds M fun x M1 => match (tyD M1 x).bind fun a => kitB a T with
  | some b => Q (.bl b) M1
  | none => False := nr rfl
theorem q_tyN : tyD M .non = some "NoneType" := nr rfl
theorem q_tyB {b : Bool} : tyD M (.bl b) = some "bool" := nr rfl
theorem q_tyI {i : Int} : tyD M (.int i) = some "int" := nr rfl
theorem q_tyS {i : Str} : tyD M (.str i) = some "str" := nr rfl
theorem q_tyT {i : List Dt} : tyD M (.tup i) = some "tuple" := nr rfl
theorem q_tyL {i : List Dt} : tyD M (.lst i) = some "list" := nr rfl
theorem q_tyC {a : Addr} : tyD M (.cel a) = match M a with
    | some (.lst _) => some "list"
    | some (.dic _) => some "dict"
    | _ => none := nr rfl
theorem q_append {x y : Dt} : dAppend x [y] M Q = match cellL M x with
    | some (a, xs) => xs.length < sizeLine ∧ Q .non (mput M a (.lst (xs ++ [y])))
    | none => False := by
  show (match cellL M x, [y] with | some (a, xs), [y] => xs.length < sizeLine ∧ Q .non (mput M a (.lst (xs ++ [y]))) | _, _ => False) = _
  cases cellL M x <;> rfl
theorem q_extend {x y : Dt} : dExtend x [y] M Q = match cellL M x with
    | some (a, xs) => (match lview M y with
      | some ys => xs.length + ys.length ≤ sizeLine ∧ Q .non (mput M a (.lst (xs ++ ys)))
      | none => False)
    | none => False := by
  show (match cellL M x, [y] with | some (a, xs), [y] => (match lview M y with | some ys => xs.length + ys.length ≤ sizeLine ∧ Q .non (mput M a (.lst (xs ++ ys))) | none => False) | _, _ => False) = _
  cases cellL M x <;> rfl
theorem q_rng1 {t : DTA} {R : DIt → Mm → Prop} : dRng1 t ds M R = t ds M fun xs M1 => match xs with
  | [.int j] => -(2 ^ 62) ≤ j ∧ j < 2 ^ 62 ∧ R ⟨rngD 0 j.toNat, fun _ => True⟩ M1
  | _ => False := nr rfl
theorem q_sqi {t : DTE} {R : DIt → Mm → Prop} : dSeqIt t ds M R = t ds M fun x M1 => match x with
  | .tup xs => R ⟨xs, fun _ => True⟩ M1
  | .str z => R ⟨signs z, fun _ => True⟩ M1
  | x => match rview M1 x with
    | some xs => R ⟨xs, fun M => rview M x = some xs⟩ M1
    | none => False := nr rfl
end
/-! plain facts that are no definitional steps for simp -/
section
variable {α β : Type}
theorem u_set0 {x v : α} {l : List α} : (x :: l).set 0 v = v :: l := nr rfl
theorem u_setS {x v : α} {l : List α} {n : Nat} : (x :: l).set (n + 1) v = x :: l.set n v := nr rfl
theorem u_lenC {x : α} {l : List α} : (x :: l).length = l.length + 1 := nr rfl
theorem u_lenN : ([] : List α).length = 0 := nr rfl
theorem u_nilA {l : List α} : [] ++ l = l := nr rfl
theorem u_consA {x : α} {l r : List α} : (x :: l) ++ r = x :: (l ++ r) := nr rfl
theorem u_mapS {f : α → β} {x : α} : (some x).map f = some (f x) := nr rfl
theorem u_mapN {f : α → β} : (none : Option α).map f = none := nr rfl
theorem u_bindS {f : α → Option β} {x : α} : (some x).bind f = f x := nr rfl
theorem u_bindN {f : α → Option β} : (none : Option α).bind f = none := nr rfl
theorem u_mapC {f : α → β} {x : α} {l : List α} : (x :: l).map f = f x :: l.map f := nr rfl
theorem u_mapE {f : α → β} : ([] : List α).map f = [] := nr rfl
theorem u_notT : (!true) = false := nr rfl
theorem u_notF : (!false) = true := nr rfl
theorem u_cast {n : Nat} : (Nat.cast (no_index (OfNat.ofNat n)) : Int) = OfNat.ofNat n := nr rfl
theorem u_isN : DL.isNon .non = true := nr rfl
theorem u_isB {b : Bool} : DL.isNon (.bl b) = false := nr rfl
theorem u_isI {b : Int} : DL.isNon (.int b) = false := nr rfl
theorem u_isS {b : Str} : DL.isNon (.str b) = false := nr rfl
theorem u_isT {b : List Dt} : DL.isNon (.tup b) = false := nr rfl
theorem u_isL {b : List Dt} : DL.isNon (.lst b) = false := nr rfl
theorem u_isR {b : List Dt} : DL.isNon (.ro b) = false := nr rfl
theorem u_isD {b : List (Key × Dt)} : DL.isNon (.dic b) = false := nr rfl
theorem u_isO {c : Str} {b : List (Str × Dt)} : DL.isNon (.obj c b) = false := nr rfl
theorem u_isC {a : Addr} : DL.isNon (.cel a) = false := nr rfl
theorem u_size : sizeLine = 16777216 := nr sizeLine_eq
end
/-! isinstance -/
theorem kb_NoneType_bool : kitB "NoneType" "bool" = some false := nr (by decide +kernel)
theorem kb_NoneType_int : kitB "NoneType" "int" = some false := nr (by decide +kernel)
theorem kb_NoneType_str : kitB "NoneType" "str" = some false := nr (by decide +kernel)
theorem kb_NoneType_tuple : kitB "NoneType" "tuple" = some false := nr (by decide +kernel)
theorem kb_NoneType_list : kitB "NoneType" "list" = some false := nr (by decide +kernel)
theorem kb_NoneType_dict : kitB "NoneType" "dict" = some false := nr (by decide +kernel)
theorem kb_bool_bool : kitB "bool" "bool" = some true := nr (by decide +kernel)
theorem kb_bool_int : kitB "bool" "int" = some true := nr (by decide +kernel)
theorem kb_bool_str : kitB "bool" "str" = some false := nr (by decide +kernel)
theorem kb_bool_tuple : kitB "bool" "tuple" = some false := nr (by decide +kernel)
theorem kb_bool_list : kitB "bool" "list" = some false := nr (by decide +kernel)
theorem kb_bool_dict : kitB "bool" "dict" = some false := nr (by decide +kernel)
theorem kb_int_bool : kitB "int" "bool" = some false := nr (by decide +kernel)
theorem kb_int_int : kitB "int" "int" = some true := nr (by decide +kernel)
theorem kb_int_str : kitB "int" "str" = some false := nr (by decide +kernel)
theorem kb_int_tuple : kitB "int" "tuple" = some false := nr (by decide +kernel)
theorem kb_int_list : kitB "int" "list" = some false := nr (by decide +kernel)
theorem kb_int_dict : kitB "int" "dict" = some false := nr (by decide +kernel)
theorem kb_str_bool : kitB "str" "bool" = some false := nr (by decide +kernel)
theorem kb_str_int : kitB "str" "int" = some false := nr (by decide +kernel)
theorem kb_str_str : kitB "str" "str" = some true := nr (by decide +kernel)
theorem kb_str_tuple : kitB "str" "tuple" = some false := nr (by decide +kernel)
theorem kb_str_list : kitB "str" "list" = some false := nr (by decide +kernel)
theorem kb_str_dict : kitB "str" "dict" = some false := nr (by decide +kernel)
theorem kb_tuple_bool : kitB "tuple" "bool" = some false := nr (by decide +kernel)
theorem kb_tuple_int : kitB "tuple" "int" = some false := nr (by decide +kernel)
theorem kb_tuple_str : kitB "tuple" "str" = some false := nr (by decide +kernel)
theorem kb_tuple_tuple : kitB "tuple" "tuple" = some true := nr (by decide +kernel)
theorem kb_tuple_list : kitB "tuple" "list" = some false := nr (by decide +kernel)
theorem kb_tuple_dict : kitB "tuple" "dict" = some false := nr (by decide +kernel)
theorem kb_list_bool : kitB "list" "bool" = some false := nr (by decide +kernel)
theorem kb_list_int : kitB "list" "int" = some false := nr (by decide +kernel)
theorem kb_list_str : kitB "list" "str" = some false := nr (by decide +kernel)
theorem kb_list_tuple : kitB "list" "tuple" = some false := nr (by decide +kernel)
theorem kb_list_list : kitB "list" "list" = some true := nr (by decide +kernel)
theorem kb_list_dict : kitB "list" "dict" = some false := nr (by decide +kernel)
theorem kb_dict_bool : kitB "dict" "bool" = some false := nr (by decide +kernel)
theorem kb_dict_int : kitB "dict" "int" = some false := nr (by decide +kernel)
theorem kb_dict_str : kitB "dict" "str" = some false := nr (by decide +kernel)
theorem kb_dict_tuple : kitB "dict" "tuple" = some false := nr (by decide +kernel)
theorem kb_dict_list : kitB "dict" "list" = some false := nr (by decide +kernel)
theorem kb_dict_dict : kitB "dict" "dict" = some true := nr (by decide +kernel)
section
variable {D : DEnds} {ds : DSt} {M : Mm} {Q : DQ} {X : DX}
theorem q_raise0 {c : Str} : dRaise0 c X D ds M = X c [] M := nr rfl
theorem q_raiseF {c : Str} {names : List Str} {t : DTA} : dRaiseF c names t X D ds M = t ds M fun xs M1 => xs.length = names.length ∧ xs.length ≤ 1000 ∧ X c (names.zip xs).reverse M1 := nr rfl
theorem q_isi2 {T1 T2 : String} {t : DTE} : dIsi2 T1 T2 t ds M Q = t ds M fun x M1 => ∃ a b1 b2, tyD M1 x = some a ∧ kitB a T1 = some b1 ∧ kitB a T2 = some b2 ∧ Q (.bl (b1 || b2)) M1 := nr rfl
theorem q_make {m : Bool} {c : Str} {f : DSp} {t : DTA} : dMake m c f X t ds M Q = t ds M fun xs M1 => ∀ a, M1 a = none →
  upQ f (.cel a :: xs) (mput M1 a (.obj c [])) (fun r M2 => r = .non ∧ match m with
    | true => Q (.cel a) M2
    | false => ∃ fs, M2 a = some (.obj c fs) ∧ Q (.obj c fs) (mdel M2 a)) X := nr rfl
theorem q_fld {c f : Str} {t : DTE} : dFld c f t ds M Q = t ds M fun x M1 => ∃ fs d, objView M1 x = some (c, fs) ∧ fs.lookup f = some d ∧ Q d M1 := nr rfl
theorem q_setF {cc f : Str} {to tv : DTE} {n : DSt → Mm → Prop} {r : DQ} {b c : DSt → Mm → Prop} : dSetF cc f to tv ⟨n, r, b, c⟩ ds M = tv ds M fun y M1 => to ds M1 fun x M2 => ∃ a fs, x = .cel a ∧ M2 a = some (.obj cc fs) ∧ fs.length < 1000 ∧ n ds (mput M2 a (.obj cc (putD f y fs))) := nr rfl
theorem q_prop {f : DSp} {c : Str} {t : DTE} : dProp f c t ds M Q = t ds M fun x M1 => (∃ fs, objView M1 x = some (c, fs)) ∧ upQ f [x] M1 Q X0 := nr rfl
theorem q_meth {f : DSp} {to : DTE} {m c : Str} {t : DTA} : dMeth f X to m c t ds M Q = to ds M fun x M1 => (∃ fs, objView M1 x = some (c, fs) ∧ fs.lookup m = none) ∧ t ds M1 fun xs M2 => upQ f (x :: xs) M2 Q X := nr rfl
theorem q_callO {f : DSp} {c : Str} {o : DTE} {t : DTA} : dCallO f c X o t ds M Q = o ds M fun x M1 => (∃ fs, x = .obj c fs) ∧ t ds M1 fun xs M2 => upQ f (x :: xs) M2 Q X := nr rfl
theorem q_inD {f : Bool → Bool} {ty td : DTE} : dInD f ty td ds M Q = ty ds M fun y M1 => td ds M1 fun x M2 => ∃ kvs k, dicV M2 x = some kvs ∧ keyD y = some k ∧ Q (.bl (f (valD kvs k).isSome)) M2 := nr rfl
theorem q_dget {td ty : DTE} : dDGet td ty ds M Q = td ds M fun x M1 => ty ds M1 fun y M2 => ∃ kvs k d, dicV M2 x = some kvs ∧ keyD y = some k ∧ valD kvs k = some d ∧ Q d M2 := nr rfl
theorem q_inS {f : Bool → Bool} {a z : Str} : dInS f (.str a) (.str z) M Q = ∃ c : Nat, a = ⟨#[c]⟩ ∧ Q (.bl (f (decide (c ∈ z.cps.toList)))) M := nr rfl
theorem q_revS {t : DTE} : dRevS t ds M Q = t ds M fun x M1 => match x with
  | .str z => z.length ≤ sizeLine ∧ (revS z).length ≤ sizeLine ∧ Q (.str (revS z)) M1
  | _ => False := nr rfl
theorem q_revX {m : Bool} {t : DTE} : dRevX m t ds M Q = t ds M fun x M1 => match rview M1 x with
  | some xs => newL m xs.reverse M1 Q
  | none => False := nr rfl
theorem q_enumS {t : DTA} {R : DIt → Mm → Prop} : dEnumS t ds M R = t ds M fun xs M1 => match xs with
  | [.str x] => R ⟨enumD 0 (signs x), fun _ => True⟩ M1
  | _ => False := nr rfl
theorem q_enum {t : DTA} {R : DIt → Mm → Prop} : dEnum t ds M R = t ds M fun xs M1 => match xs with
  | [x] => (match rview M1 x with
    | some xs => R ⟨enumD 0 xs, fun M => rview M x = some xs⟩ M1
    | _ => False)
  | _ => False := nr rfl
theorem q_zip {t : DTA} {R : DIt → Mm → Prop} : dZip t ds M R = t ds M fun xs M1 => match xs with
  | [.tup xs, .tup ys] => R ⟨zipD xs ys, fun _ => True⟩ M1
  | [x, y] => (match rview M1 x, rview M1 y with
    | some xs, some ys => R ⟨zipD xs ys, fun M => rview M x = some xs ∧ rview M y = some ys⟩ M1
    | _, _ => False)
  | _ => False := nr rfl
theorem q_rev {t : DTA} {R : DIt → Mm → Prop} : dRev t ds M R = t ds M fun xs M1 => match xs with
  | [x] => (match rview M1 x with
    | some xs => R ⟨xs.reverse, fun M => rview M x = some xs⟩ M1
    | _ => False)
  | _ => False := nr rfl
theorem q_rng2 {t : DTA} {R : DIt → Mm → Prop} : dRng2 t ds M R = t ds M fun xs M1 => match xs with
  | [.int i, .int j] => (-(2 ^ 62) ≤ i ∧ i < 2 ^ 62 ∧ -(2 ^ 62) ≤ j ∧ j < 2 ^ 62) ∧ R ⟨rngD i (j - i).toNat, fun _ => True⟩ M1
  | _ => False := nr rfl
theorem q_rng3 {t : DTA} {R : DIt → Mm → Prop} : dRng3 t ds M R = t ds M fun xs M1 => match xs with
  | [.int i, .int j, .int c] => ∃ n, RgC i j c n ∧ R ⟨rngC i c n, fun _ => True⟩ M1
  | _ => False := nr rfl
theorem q_insert {x y : Dt} {i : Int} : dInsert x [.int i, y] M Q = match cellL M x with
    | some (a, xs) => xs.length < sizeLine ∧ 0 ≤ i ∧ i < 2 ^ 63 ∧ Q .non (mput M a (.lst (xs.take i.toNat ++ [y] ++ xs.drop i.toNat)))
    | none => False := by
  show (match cellL M x, [.int i, y] with | some (a, xs), [.int i, y] => xs.length < sizeLine ∧ 0 ≤ i ∧ i < 2 ^ 63 ∧ Q .non (mput M a (.lst (xs.take i.toNat ++ [y] ++ xs.drop i.toNat))) | _, _ => False) = _
  cases cellL M x <;> rfl
theorem q_reverse {x : Dt} : dReverse x [] M Q = match cellL M x with
    | some (a, xs) => Q .non (mput M a (.lst xs.reverse))
    | none => False := by
  show (match cellL M x, ([] : List Dt) with | some (a, xs), [] => Q .non (mput M a (.lst xs.reverse)) | _, _ => False) = _
  cases cellL M x <;> rfl
theorem q_join {a : Str} {y : Dt} : dJoin (.str a) [y] M Q = match (seqD M y).bind strsD with
    | some ys => (ys.map (·.length)).sum + ys.length * a.length ≤ 16777216 ∧ Q (.str (Txt.join a ys)) M
    | none => False := nr rfl
theorem q_cntB {x : Dt} {vs : List Dt} : dCntB x vs M Q = ∃ bs : List Bool, rview M x = some (bs.map Dt.bl) ∧ vs = [.bl true] ∧ Q (.int ((bs.filter id).length : Nat)) M := nr rfl
theorem q_isTyL {T : String} {xs : List Dt} : isTyM T (.lst xs) M = (T = "list" ∧ ∃ ys, rview M (.lst xs) = some ys) := nr rfl
theorem q_isTyS {T : String} {x : Str} : isTyM T (.str x) M = (T = "str") := nr rfl
theorem q_isTyC {T : String} {a : Addr} : isTyM T (.cel a) M = (T = "list" ∧ ∃ xs, rview M (.cel a) = some xs) := nr rfl
theorem q_isE {a : Addr} {b : Bool} {t : DTE} : dIsE a b t ds M Q = t ds M fun x M1 => x = .cel a ∧ Q (.bl b) M1 := nr rfl
theorem q_xf {a : Addr} {fs : List (Str × Dt)} {f : Str} {t : DTE} : dXf a fs f t ds M Q = t ds M fun x M1 => x = .cel a ∧ ∃ d, fs.lookup f = some d ∧ Q d M1 := nr rfl
theorem q_ones {t : DTE} : dOnes t ds M Q = t ds M fun x M1 => ∃ bs : List Bool, rview M1 x = some (bs.map Dt.bl) ∧ bs.length < sizeLine ∧ Q (.lst ((bs.filter fun b => b).map Dt.bl)) M1 := nr rfl
theorem q_callE {f : DSe} {a : Addr} {fs : List (Str × Dt)} {t : DTA} : dCallE f a fs t ds M Q = t ds M fun xs M1 => upQ (f a fs) xs M1 Q X0 := nr rfl
theorem q_ovO {c : Str} {fs : List (Str × Dt)} : objView M (.obj c fs) = some (c, fs) := nr rfl
theorem q_ovC {a : Addr} : objView M (.cel a) = match M a with
    | some (.obj c fs) => some (c, fs)
    | _ => none := nr rfl
theorem q_dvD {kvs : List (Key × Dt)} : dicV M (.dic kvs) = some kvs := nr rfl
theorem q_keyS {s : Str} : keyD (.str s) = some (.inr s) := nr rfl
theorem q_keyI {s : Int} : keyD (.int s) = some (.inl s) := nr rfl
theorem q_den {Cs : List Str} {bs : Addr → Str → List (Str × Dt) → DTS} {tb : DX → DTE} {td : DTE} : dDen Cs bs tb td ds M Q = ∃ Q0 : DQ, (∀ x M', Q0 x M' → Q x M') ∧ td ds M fun d M1 => ∀ fa : Addr,
  tb (fun c fs M2 => c ∈ Cs ∧ ∀ a, M2 a = none → bs a c fs { nx := fun _ _ => False, rt := Q0 } [some (.cel fa), some d, some (.cel a)] M2) ds M1 (fun _ M2 => Q0 (.bl false) M2) := nr rfl
end
end DL
set_option Elab.async false
set_option linter.all false
set_option maxRecDepth 100000
set_option maxHeartbeats 4000000
/-! Plain layer, part B: loops. -/
namespace DL
open PySem PySem.Spec PyProof.Rows L2
theorem while_of {c : DTT} {b : DTS} {D : DEnds} {ds : DSt} {M : Mm} (I : Nat → DSt → Mm → Prop) (n : Nat) (h0 : I n ds M)
    (hs : ∀ (n : Nat) (ds : DSt) (M : Mm) (N : DSt → Mm → Prop), (∀ k ds M, k < n → I k ds M → N ds M) → I n ds M → c ds M fun k M1 => if k = true then b { D with nx := N, ct := N, bk := D.nx } ds M1 else D.nx ds M1) : dWhile c b D ds M := by
  have key : ∀ fuel n ds M, n ≤ fuel → I n ds M → dWhileN c b D (fuel + 1) ds M := by
    intro fuel
    induction fuel with
    | zero =>
      intro n ds M hn h
      exact hs n ds M _ (fun k ds M hk _ => by omega) h
    | succ f ih =>
      intro n ds M hn h
      exact hs n ds M _ (fun k ds M hk hi => ih k ds M (by omega) hi) h
  exact ⟨n + 1, key n n ds M (Nat.le_refl _) h0⟩
theorem for_of {g : DTG} {b : DTS} {D : DEnds} {st : Mm → Prop} (I : List Dt → DSt → Mm → Prop)
    (hs : ∀ (x : Dt) (r : List Dt) (ds : DSt) (M : Mm) (N : DSt → Mm → Prop), (∀ ds M, I r ds M → N ds M) → I (x :: r) ds M → st M ∧ g x ds M fun ds' M' => b { D with nx := N, ct := N, bk := D.nx } ds' M')
    (hd : ∀ ds M, I [] ds M → st M ∧ D.nx ds M) : ∀ (xs : List Dt) (ds : DSt) (M : Mm), I xs ds M → dForL g b D st xs ds M
  | [], ds, M, h => hd ds M h
  | x :: r, ds, M, h => hs x r ds M _ (fun ds M hi => for_of I hs hd r ds M hi) h
/-- over range(n): the turn's number -/
theorem for_rng {g : DTG} {b : DTS} {D : DEnds} {n : Nat} (I : Nat → DSt → Mm → Prop)
    (hs : ∀ (i : Nat) (ds : DSt) (M : Mm) (N : DSt → Mm → Prop), i < n → (∀ ds M, I (i + 1) ds M → N ds M) → I i ds M → g (.int (i : Int)) ds M fun ds' M' => b { D with nx := N, ct := N, bk := D.nx } ds' M')
    (hd : ∀ ds M, I n ds M → D.nx ds M) (ds : DSt) (M : Mm) (h0 : I 0 ds M) : dForL g b D (fun _ => True) (rngD 0 n) ds M := by
  have key : ∀ m i ds M, i + m = n → I i ds M → dForL g b D (fun _ => True) ((List.range' i m).map fun (k : Nat) => Dt.int (0 + (k : Int))) ds M := by
    intro m
    induction m with
    | zero => intro i ds M e h; exact ⟨trivial, hd ds M (by rw [← e]; exact h)⟩
    | succ m ih =>
      intro i ds M e h
      refine ⟨trivial, ?_⟩
      have := hs i ds M (dForL g b D (fun _ => True) ((List.range' (i + 1) m).map fun (k : Nat) => Dt.int (0 + (k : Int)))) (by omega) (fun ds M hi => ih (i + 1) ds M (by omega) hi) h
      rw [← Int.zero_add (i : Int)] at this
      exact this
  have := key n 0 ds M (by omega) h0
  unfold rngD
  rw [List.range_eq_range']
  exact this
/-- over the list xs.map e -/
theorem for_map {α : Type} {g : DTG} {b : DTS} {D : DEnds} {st : Mm → Prop} {e : α → Dt} (I : List α → DSt → Mm → Prop)
    (hs : ∀ (x : α) (r : List α) (ds : DSt) (M : Mm) (N : DSt → Mm → Prop), (∀ ds M, I r ds M → N ds M) → I (x :: r) ds M → st M ∧ g (e x) ds M fun ds' M' => b { D with nx := N, ct := N, bk := D.nx } ds' M')
    (hd : ∀ ds M, I [] ds M → st M ∧ D.nx ds M) : ∀ (xs : List α) (ds : DSt) (M : Mm), I xs ds M → dForL g b D st (xs.map e) ds M
  | [], ds, M, h => hd ds M h
  | x :: r, ds, M, h => hs x r ds M _ (fun ds M hi => for_map I hs hd r ds M hi) h
/-! comprehensions -/
inductive Rel2 {α β : Type} (R : α → β → Prop) : List α → List β → Prop
  | nil : Rel2 R [] []
  | cons {a : α} {b : β} {as : List α} {bs : List β} : R a b → Rel2 R as bs → Rel2 R (a :: as) (b :: bs)
theorem Rel2.length {α β : Type} {R : α → β → Prop} : ∀ {as : List α} {bs : List β}, Rel2 R as bs → as.length = bs.length
  | _, _, .nil => rfl
  | _, _, .cons _ t => congrArg Nat.succ t.length
/-- a comprehension without tests; J is kept, each element stands in R to its item -/
theorem lc_rel {α : Type} {g : DTG} {te : DTE} {st : Mm → Prop} {ds : DSt} {Q : List Dt → Mm → Prop} {e : α → Dt} (R : α → Dt → Prop) (J : Mm → Prop) (hJ : ∀ M, J M → st M)
    (he : ∀ (x : α) (M : Mm) (N : DQ), J M → (∀ y M', J M' → R x y → N y M') → g (e x) ds M fun ds' M' => te ds' M' N) :
    ∀ (xs : List α) (acc : List Dt) (M : Mm), J M → acc.length + xs.length ≤ sizeLine → (∀ ys M', J M' → Rel2 R xs ys → Q (acc ++ ys) M') → dLcL g dYes te st ds Q (xs.map e) acc M
  | [], acc, M, hM, _, hq => ⟨hJ M hM, by simpa using hq [] M hM .nil⟩
  | x :: r, acc, M, hM, hl, hq => by
    refine ⟨hJ M hM, ?_⟩
    have hl' : acc.length + (r.length + 1) ≤ sizeLine := hl
    refine he x M (fun y M3 => acc.length < sizeLine ∧ dLcL g dYes te st ds Q (r.map e) (acc ++ [y]) M3) hM fun y M' hM' hy => ⟨by omega, ?_⟩
    refine lc_rel R J hJ he r (acc ++ [y]) M' hM' (by simp only [List.length_append, List.length_cons, List.length_nil]; omega) fun ys M'' h'' hr => ?_
    rw [List.append_assoc]
    exact hq (y :: ys) M'' h'' (.cons hy hr)
/-- nothing changes, each element is a function of its item -/
theorem lc_map {α : Type} {g : DTG} {te : DTE} {st : Mm → Prop} {ds : DSt} {Q : List Dt → Mm → Prop} {e : α → Dt} (f : α → Dt) {M : Mm} (hJ : st M)
    (he : ∀ (x : α) (N : DQ), N (f x) M → g (e x) ds M fun ds' M' => te ds' M' N) :
    ∀ (xs : List α) (acc : List Dt), acc.length + xs.length ≤ sizeLine → Q (acc ++ xs.map f) M → dLcL g dYes te st ds Q (xs.map e) acc M
  | [], acc, _, hq => ⟨hJ, by simpa using hq⟩
  | x :: r, acc, hl, hq => by
    refine ⟨hJ, ?_⟩
    have hl' : acc.length + (r.length + 1) ≤ sizeLine := hl
    refine he x (fun y M3 => acc.length < sizeLine ∧ dLcL g dYes te st ds Q (r.map e) (acc ++ [y]) M3) ⟨by omega, ?_⟩
    refine lc_map f hJ he r (acc ++ [f x]) (by simp only [List.length_append, List.length_cons, List.length_nil]; omega) ?_
    rw [List.append_assoc]
    exact hq
/-- the same, with membership -/
theorem lc_map_mem {α : Type} {g : DTG} {te : DTE} {st : Mm → Prop} {ds : DSt} {Q : List Dt → Mm → Prop} {e : α → Dt} (f : α → Dt) {M : Mm} (hJ : st M) :
    ∀ (xs : List α) (acc : List Dt), (∀ (x : α) (N : DQ), x ∈ xs → N (f x) M → g (e x) ds M fun ds' M' => te ds' M' N) → acc.length + xs.length ≤ sizeLine → Q (acc ++ xs.map f) M → dLcL g dYes te st ds Q (xs.map e) acc M
  | [], acc, _, _, hq => ⟨hJ, by simpa using hq⟩
  | x :: r, acc, he, hl, hq => by
    refine ⟨hJ, ?_⟩
    have hl' : acc.length + (r.length + 1) ≤ sizeLine := hl
    refine he x (fun y M3 => acc.length < sizeLine ∧ dLcL g dYes te st ds Q (r.map e) (acc ++ [y]) M3) List.mem_cons_self ⟨by omega, ?_⟩
    refine lc_map_mem f hJ r (acc ++ [f x]) (fun z N hz => he z N (List.mem_cons_of_mem _ hz)) (by simp only [List.length_append, List.length_cons, List.length_nil]; omega) ?_
    rw [List.append_assoc]
    exact hq
/-- with a test -/
theorem lc_filter {α : Type} {g : DTG} {tt : DTT} {te : DTE} {st : Mm → Prop} {ds : DSt} {Q : List Dt → Mm → Prop} {e : α → Dt} (p : α → Bool) (f : α → Dt) {M : Mm} (hJ : st M) :
    ∀ (xs : List α) (acc : List Dt), (∀ (x : α) (N : Bool → Mm → Prop) (N2 : DQ), x ∈ xs → (p x = true → N2 (f x) M) → (p x = false → N false M) → g (e x) ds M fun ds' M' => tt ds' M' fun b M2 => if b = true then te ds' M2 N2 else N false M2) → acc.length + xs.length ≤ sizeLine → Q (acc ++ (xs.filter p).map f) M → dLcL g tt te st ds Q (xs.map e) acc M
  | [], acc, _, _, hq => ⟨hJ, by simpa using hq⟩
  | x :: r, acc, he, hl, hq => by
    refine ⟨hJ, ?_⟩
    have hl' : acc.length + (r.length + 1) ≤ sizeLine := hl
    refine he x (fun _ M2 => dLcL g tt te st ds Q (r.map e) acc M2) (fun y M3 => acc.length < sizeLine ∧ dLcL g tt te st ds Q (r.map e) (acc ++ [y]) M3) List.mem_cons_self (fun hp => ⟨by omega, ?_⟩) fun hp => ?_
    · refine lc_filter p f hJ r (acc ++ [f x]) (fun z N N2 hz => he z N N2 (List.mem_cons_of_mem _ hz)) (by simp only [List.length_append, List.length_cons, List.length_nil]; omega) ?_
      rw [List.filter_cons_of_pos hp] at hq
      rw [List.append_assoc]
      exact hq
    · refine lc_filter p f hJ r acc (fun z N N2 hz => he z N N2 (List.mem_cons_of_mem _ hz)) (by omega) ?_
      rw [List.filter_cons_of_neg (by simp [hp])] at hq
      exact hq
theorem rngD_map {n : Nat} : rngD 0 n = (List.range n).map fun (i : Nat) => Dt.int (i : Int) := by
  unfold rngD
  congr 1
  funext i
  rw [Int.zero_add]
/-! the store of draws -/
theorem ixN_lt {n k : Nat} (h : k < n) : ixN n (k : Int) = some k := by
  unfold ixN
  rw [if_pos (by omega), if_pos (by omega)]; rfl
theorem q_ixN0 {n : Nat} : ixN (n + 1) 0 = some 0 := ixN_lt (k := 0) (by omega)
theorem q_ixN1 {n : Nat} : ixN (n + 1 + 1) 1 = some 1 := ixN_lt (k := 1) (by omega)
theorem q_ixN2 {n : Nat} : ixN (n + 1 + 1 + 1) 2 = some 2 := ixN_lt (k := 2) (by omega)
theorem q_ixN3 {n : Nat} : ixN (n + 1 + 1 + 1 + 1) 3 = some 3 := ixN_lt (k := 3) (by omega)
theorem q_ixN4 {n : Nat} : ixN (n + 1 + 1 + 1 + 1 + 1) 4 = some 4 := ixN_lt (k := 4) (by omega)
def StOk (s : List Int) : Prop := ∃ i b t c m cells, s = i :: b :: t :: c :: m :: cells ∧ 5 ≤ i ∧ 0 ≤ b ∧ 0 ≤ t ∧ t < 2 ^ 61
def Ok (a : Addr) (M : Mm) : Prop := ∃ s, M a = some (.lst (s.map .int)) ∧ StOk s
/-- a draw: the store a goes on, all else stays -/
structure Dr (a : Addr) (M M' : Mm) : Prop where
  ok : Ok a M'
  fr : ∀ b d, b ≠ a → M b = some d → M' b = some d
theorem Dr.refl {a : Addr} {M : Mm} (h : Ok a M) : Dr a M M := ⟨h, fun _ _ _ e => e⟩
theorem Dr.trans {a : Addr} {M M1 M2 : Mm} (h : Dr a M M1) (g : Dr a M1 M2) : Dr a M M2 := ⟨g.ok, fun b d hb e => g.fr b d hb (h.fr b d hb e)⟩
theorem Dr.keep {a b : Addr} {M M' : Mm} {d : Dt} (h : Dr a M M') (hb : b ≠ a) (e : M b = some d) : M' b = some d := h.fr b d hb e
theorem Ok.ne {a p : Addr} {M : Mm} (h : Ok a M) (hp : M p = none) : p ≠ a := fun e => by
  obtain ⟨s, h, _⟩ := h
  rw [e, h] at hp; cases hp
theorem Dr.of {a : Addr} {M : Mm} {s : List Int} (h : StOk s) : Dr a M (mput M a (.lst (s.map .int))) := ⟨⟨s, mput_same, h⟩, fun b d hb e => (mput_ne hb).trans e⟩
theorem Ok.put {a p : Addr} {M : Mm} {d : Dt} (h : Ok a M) (hp : p ≠ a) : Ok a (mput M p d) := by
  obtain ⟨s, h, k⟩ := h
  exact ⟨s, (mput_ne (Ne.symm hp)).trans h, k⟩
theorem cm_c {i j : Int} (h1 : -(2 ^ 64) < j) (h2 : j < 2 ^ 64) : CM i j := .inl (.inr ⟨h1, h2⟩)
theorem cm_l {i j : Int} (h1 : -(2 ^ 64) < i) (h2 : i < 2 ^ 64) : CM i j := .inl (.inl ⟨h1, h2⟩)
theorem cd_c {i j : Int} (h1 : 0 < j) (h2 : j < 2 ^ 64) : CDivW i j := wide_div (b := 64) h1 (by omega) (by omega) (by omega)
/-- an assertion between a statement and the rest -/
theorem q_mid {t u : DTS} {D : DEnds} {ds : DSt} {M : Mm} (P : DSt → Mm → Prop) (h1 : ∀ N : DSt → Mm → Prop, (∀ ds M, P ds M → N ds M) → t { D with nx := N } ds M) (h2 : ∀ ds M, P ds M → hold u D ds M) : hold (dSeq t u) D ds M :=
  ⟨h1 (u D) fun ds M h => (h2 ds M h).un⟩
theorem dr_put {a : Addr} {M : Mm} {xs : List Dt} {s : List Int} (e : xs = s.map .int) (h : StOk s) : Dr a M (mput M a (.lst xs)) := by subst e; exact Dr.of h
theorem Dr.put {a : Addr} {M M' : Mm} {xs : List Dt} {s : List Int} (h : Dr a M M') (e : xs = s.map .int) (hs : StOk s) : Dr a M (mput M' a (.lst xs)) := h.trans (dr_put e hs)
theorem ne_new {M : Mm} {b p : Addr} {d : Dt} (h : M b = some d) (hp : M p = none) : b ≠ p := fun e => by rw [e, hp] at h; cases h
/-- a new cell -/
theorem Dr.new {a p : Addr} {M M' : Mm} {d : Dt} (h : Dr a M M') (hp : M' p = none) : Dr a M (mput M' p d) :=
  ⟨h.ok.put (h.ok.ne hp), fun b e hb he => (mput_ne (ne_new (h.fr b e hb he) hp)).trans (h.fr b e hb he)⟩
/-- a change of a cell that was not there -/
theorem Dr.wr {a p : Addr} {M M' : Mm} {d : Dt} (h : Dr a M M') (hp : p ≠ a) (hM : M p = none) : Dr a M (mput M' p d) :=
  ⟨h.ok.put hp, fun b e hb he => (mput_ne (ne_new he hM)).trans (h.fr b e hb he)⟩
/-- all but new cells as before -/
theorem Dr.same {a : Addr} {M M1 M2 : Mm} (h : Dr a M M1) (g : ∀ b d, M1 b = some d → M2 b = some d) : Dr a M M2 :=
  ⟨by obtain ⟨s, e, k⟩ := h.ok; exact ⟨s, g _ _ e, k⟩, fun b d hb e => g _ _ (h.fr b d hb e)⟩
theorem Dr.none {a p : Addr} {M M' : Mm} (h : Dr a M M') (hp : M' p = none) : M p = none := by
  have hne := h.ok.ne hp
  cases e : M p with
  | none => rfl
  | some d => rw [h.fr p d hne e] at hp; cases hp
theorem rvC {M : Mm} {p : Addr} {xs : List Dt} (h : M p = some (.lst xs)) : rview M (.cel p) = some xs := rview_cel h
/-- the same, with membership -/
theorem lc_rel_mem {α : Type} {g : DTG} {te : DTE} {st : Mm → Prop} {ds : DSt} {Q : List Dt → Mm → Prop} {e : α → Dt} (R : α → Dt → Prop) (J : Mm → Prop) (hJ : ∀ M, J M → st M) :
    ∀ (xs : List α) (acc : List Dt) (M : Mm), (∀ (x : α) (M : Mm) (N : DQ), x ∈ xs → J M → (∀ y M', J M' → R x y → N y M') → g (e x) ds M fun ds' M' => te ds' M' N) →
      J M → acc.length + xs.length ≤ sizeLine → (∀ ys M', J M' → Rel2 R xs ys → Q (acc ++ ys) M') → dLcL g dYes te st ds Q (xs.map e) acc M
  | [], acc, M, _, hM, _, hq => ⟨hJ M hM, by simpa using hq [] M hM .nil⟩
  | x :: r, acc, M, he, hM, hl, hq => by
    refine ⟨hJ M hM, ?_⟩
    have hl' : acc.length + (r.length + 1) ≤ sizeLine := hl
    refine he x M (fun y M3 => acc.length < sizeLine ∧ dLcL g dYes te st ds Q (r.map e) (acc ++ [y]) M3) List.mem_cons_self hM fun y M' hM' hy => ⟨by omega, ?_⟩
    refine lc_rel_mem R J hJ r (acc ++ [y]) M' (fun z M N hz => he z M N (List.mem_cons_of_mem _ hz)) hM' (by simp only [List.length_append, List.length_cons, List.length_nil]; omega) fun ys M'' h'' hr => ?_
    rw [List.append_assoc]
    exact hq (y :: ys) M'' h'' (.cons hy hr)
end DL
set_option Elab.async false
set_option linter.all false
set_option maxRecDepth 100000
set_option maxHeartbeats 4000000
/-! Plain layer: fractions. -/
namespace DL
open PySem PySem.Spec PyProof.Rows L2
/-- a fraction in lowest terms, as data -/
def fr (q : Rat) : Dt := .tup [.int q.num, .int (q.den : Int)]
/-- its parts have at most n bits -/
def Sz (n : Nat) (q : Rat) : Prop := q.num.natAbs < 2 ^ n ∧ q.den < 2 ^ n
theorem Sz.mono {n m : Nat} {q : Rat} (h : Sz n q) (hm : n ≤ m) : Sz m q := ⟨Nat.lt_of_lt_of_le h.1 (Nat.pow_le_pow_right (by decide) hm), Nat.lt_of_lt_of_le h.2 (Nat.pow_le_pow_right (by decide) hm)⟩
theorem fr_inj {a b : Rat} (h : fr a = fr b) : a = b := by
  unfold fr at h
  injection h with h
  injection h with h1 h2
  injection h2 with h2 h3
  injection h1 with h1
  injection h2 with h2
  exact Rat.ext h1 (by exact_mod_cast h2)
theorem rat_of {n : Int} {d : Nat} (hd : d ≠ 0) (hc : Nat.Coprime n.natAbs d) {q : Rat} (e : n * q.den = q.num * d) : q.num = n ∧ q.den = d := by
  have h : mkRat n d = q := by
    rw [← Rat.mkRat_self q]
    exact (Rat.mkRat_eq_iff hd q.den_nz).mpr e
  have h2 : (⟨n, d, hd, hc⟩ : Rat) = q := by
    rw [← h]
    exact (Rat.mkRat_self ⟨n, d, hd, hc⟩).symm
  rw [← h2]
  exact ⟨rfl, rfl⟩
theorem mk_parts {a : Int} {b : Nat} (hb : b ≠ 0) : (mkRat a b).num = a / (a.natAbs.gcd b : Nat) ∧ (mkRat a b).den = b / a.natAbs.gcd b := by
  rw [← Rat.normalize_eq_mkRat hb, Rat.normalize_eq]
  exact ⟨rfl, rfl⟩
theorem fr_low {a b : Int} (hb : 0 < b) : (.tup [.int (a / (Int.gcd a b : Nat)), .int (b / (Int.gcd a b : Nat))] : Dt) = fr (mkRat a b.toNat) := by
  obtain ⟨n, rfl⟩ := Int.eq_ofNat_of_zero_le (Int.le_of_lt hb)
  have hn : n ≠ 0 := by omega
  obtain ⟨h1, h2⟩ := mk_parts (a := a) hn
  unfold fr
  rw [Int.toNat_natCast, h1, h2]
  congr 3
theorem fr_int (i : Int) : fr (i : Rat) = .tup [.int i, .int 1] := by
  unfold fr
  rw [Rat.num_intCast, Rat.den_intCast]; rfl
theorem fr_add (a b : Rat) : mkRat (a.num * b.den + b.num * a.den) (a.den * b.den) = a + b := (Rat.add_def' a b).symm
theorem fr_sub (a b : Rat) : mkRat (a.num * b.den - b.num * a.den) (a.den * b.den) = a - b := (Rat.sub_def' a b).symm
theorem gcd_pos {a b : Int} (hb : b ≠ 0) : 0 < Int.gcd a b := Int.gcd_pos_of_ne_zero_right _ hb
theorem den_pos (q : Rat) : (0 : Int) < q.den := by have := q.den_nz; omega
theorem gcd_em (l r : Int) : Int.gcd (l % r) r = Int.gcd l r := by
  apply Nat.dvd_antisymm
  · apply Int.dvd_gcd
    · have h1 : ((Int.gcd (l % r) r : Nat) : Int) ∣ l % r := Int.gcd_dvd_left ..
      have h2 : ((Int.gcd (l % r) r : Nat) : Int) ∣ r := Int.gcd_dvd_right ..
      have e : l = r * (l / r) + l % r := (Int.mul_ediv_add_emod l r).symm
      have := Int.dvd_add (Int.dvd_trans h2 (Int.dvd_mul_right r (l / r))) h1
      rw [← e] at this; exact this
    · exact Int.gcd_dvd_right ..
  · apply Int.dvd_gcd
    · have h1 : ((Int.gcd l r : Nat) : Int) ∣ l := Int.gcd_dvd_left ..
      have h2 : ((Int.gcd l r : Nat) : Int) ∣ r := Int.gcd_dvd_right ..
      rw [Int.emod_def]
      exact Int.dvd_sub h1 (Int.dvd_trans h2 (Int.dvd_mul_right r (l / r)))
    · exact Int.gcd_dvd_right ..
/-- the shorter way to a sum -/
theorem add_short1 (a b : Rat) (h : Nat.gcd a.den b.den = 1) : (a + b).num = a.num * b.den + b.num * a.den ∧ (a + b).den = a.den * b.den := by
  have e : a + b = Rat.add a b := rfl
  rw [e]
  unfold Rat.add
  simp only [h, dif_pos]
  exact ⟨trivial, trivial⟩
theorem add_short2 (a b : Rat) (h : Nat.gcd a.den b.den ≠ 1) {raw : Int} (hr : raw = a.num * (b.den / Nat.gcd a.den b.den : Nat) + b.num * (a.den / Nat.gcd a.den b.den : Nat)) :
    (a + b).num = raw / (raw.natAbs.gcd (Nat.gcd a.den b.den) : Nat) ∧ (a + b).den = (a.den / Nat.gcd a.den b.den) * (b.den / raw.natAbs.gcd (Nat.gcd a.den b.den)) := by
  have e : a + b = Rat.add a b := rfl
  have hd : (raw.natAbs.gcd (Nat.gcd a.den b.den)) ∣ b.den := Nat.dvd_trans (Nat.gcd_dvd_right _ _) (Nat.gcd_dvd_right _ _)
  rw [e]
  unfold Rat.add
  simp only [h, dif_neg, not_false_eq_true, ← hr, Rat.maybeNormalize_eq]
  refine ⟨?_, ?_⟩
  · rw [Int.divExact_eq_ediv]
  · rw [Nat.mul_div_assoc _ hd]
theorem mul_short (a b : Rat) : (a * b).num = (a.num / (a.num.natAbs.gcd b.den : Nat)) * (b.num / (b.num.natAbs.gcd a.den : Nat)) ∧ (a * b).den = (a.den / b.num.natAbs.gcd a.den) * (b.den / a.num.natAbs.gcd b.den) := by
  have e : a * b = Rat.mul a b := rfl
  rw [e]
  unfold Rat.mul
  simp only [Int.divExact_eq_ediv, Nat.divExact_eq_div]
  exact ⟨trivial, trivial⟩
theorem sz_mk {a : Int} {b n : Nat} (ha : a.natAbs < 2 ^ n) (hb : b < 2 ^ n) (h0 : b ≠ 0) : Sz n (mkRat a b) := by
  obtain ⟨h1, h2⟩ := mk_parts (a := a) h0
  unfold Sz
  rw [h1, h2]
  refine ⟨Nat.lt_of_le_of_lt ?_ ha, Nat.lt_of_le_of_lt (Nat.div_le_self _ _) hb⟩
  exact Int.natAbs_ediv_le_natAbs _ _
theorem nab {i j : Int} {n m : Nat} (hi : i.natAbs < 2 ^ n) (hj : j.natAbs < 2 ^ m) : (i * j).natAbs < 2 ^ (n + m) := by
  rw [Int.natAbs_mul, Nat.pow_add]
  exact Nat.mul_lt_mul'' hi hj
theorem nad {q : Rat} {n : Nat} (h : Sz n q) : (q.den : Int).natAbs < 2 ^ n := by rw [Int.natAbs_natCast]; exact h.2
theorem naa {i j : Int} {n m k : Nat} (hi : i.natAbs < 2 ^ n) (hj : j.natAbs < 2 ^ m) (h1 : n + 1 ≤ k) (h2 : m + 1 ≤ k) : (i + j).natAbs < 2 ^ k := by
  have a1 : 2 ^ (n + 1) ≤ 2 ^ k := Nat.pow_le_pow_right (by decide) h1
  have a2 : 2 ^ (m + 1) ≤ 2 ^ k := Nat.pow_le_pow_right (by decide) h2
  rw [Nat.pow_succ] at a1 a2
  have := Int.natAbs_add_le i j
  omega
theorem Sz.neg {n : Nat} {q : Rat} (h : Sz n q) : Sz n (-q) := ⟨by rw [Rat.neg_num, Int.natAbs_neg]; exact h.1, h.2⟩
theorem Sz.add {n m k : Nat} {a b : Rat} (ha : Sz n a) (hb : Sz m b) (hk : n + m + 1 ≤ k) : Sz k (a + b) := by
  rw [← fr_add]
  refine sz_mk (naa (nab ha.1 (nad hb)) (nab hb.1 (nad ha)) hk (by omega)) ?_ (Nat.mul_ne_zero a.den_nz b.den_nz)
  exact Nat.lt_of_lt_of_le (Nat.mul_lt_mul'' ha.2 hb.2) (by rw [← Nat.pow_add]; exact Nat.pow_le_pow_right (by decide) (by omega))
theorem Sz.sub {n m k : Nat} {a b : Rat} (ha : Sz n a) (hb : Sz m b) (hk : n + m + 1 ≤ k) : Sz k (a - b) := by
  rw [Rat.sub_eq_add_neg]
  exact ha.add hb.neg hk
theorem Sz.mul {n m k : Nat} {a b : Rat} (ha : Sz n a) (hb : Sz m b) (hk : n + m ≤ k) : Sz k (a * b) := by
  rw [Rat.mul_def']
  have e : (2 : Nat) ^ (n + m) ≤ 2 ^ k := Nat.pow_le_pow_right (by decide) hk
  refine sz_mk (Nat.lt_of_lt_of_le (nab ha.1 hb.1) e) (Nat.lt_of_lt_of_le ?_ e) (Nat.mul_ne_zero a.den_nz b.den_nz)
  rw [Nat.pow_add]
  exact Nat.mul_lt_mul'' ha.2 hb.2
theorem sz_int {i : Int} {n : Nat} (h : i.natAbs < 2 ^ n) (hn : 0 < n) : Sz n (i : Rat) := ⟨by rw [Rat.num_intCast]; exact h, by rw [Rat.den_intCast]; exact Nat.one_lt_two_pow (by omega)⟩
theorem sz_1 : Sz 1 1 := ⟨by decide, by decide⟩
theorem sz_0 : Sz 1 0 := ⟨by decide, by decide⟩
theorem cm_of {i j : Int} {n m : Nat} (hi : i.natAbs < 2 ^ n) (hj : j.natAbs < 2 ^ m) (h : n + m ≤ 900000) : CM i j := by
  refine .inr (wide_mul (a := n + 1) (b := m + 1) (Nat.lt_of_lt_of_le hi (Nat.pow_le_pow_right (by decide) (by omega))) (Nat.lt_of_lt_of_le hj (Nat.pow_le_pow_right (by decide) (by omega))) (by omega) (by omega) (by omega))
theorem cd_of {i j : Int} {n : Nat} (h0 : 0 < j) (hj : j.natAbs < 2 ^ n) (hn : n ≤ 8999) : CDivW i j :=
  wide_div (b := n + 1) h0 (Nat.lt_of_lt_of_le hj (Nat.pow_le_pow_right (by decide) (by omega))) (by omega) (by omega)
section
variable {D : DEnds} {ds : DSt} {M : Mm} {Q : DQ} {X : DX}
theorem q_frIx0 {q : Rat} : dIx (fr q) (.int 0) M Q = Q (.int q.num) M := by
  unfold fr
  rw [q_ixT, q_at0]
theorem q_frIx1 {q : Rat} : dIx (fr q) (.int 1) M Q = Q (.int (q.den : Int)) M := by
  unfold fr
  rw [q_ixT, q_at1]
theorem q_frTup {q : Rat} {t : DTGs} {P : DSt → Mm → Prop} : dGTup 2 t (fr q) ds M P = t [.int q.num, .int (q.den : Int)] ds M P := by
  unfold fr
  rw [q_gtup]
  exact propext ⟨fun h => h.2, fun h => ⟨rfl, h⟩⟩
theorem q_frTy {q : Rat} : tyD M (fr q) = some "tuple" := nr rfl
theorem q_frLen {q : Rat} : lenD M (fr q) = some 2 := nr rfl
theorem eq_fr {a b : Rat} (h : Q (.bl (decide (a = b))) M) : dEqR (fr a) (fr b) M Q := by
  refine .inr ⟨rfl, rfl, ?_⟩
  have e : PyData.eqv (.tuple [.int a.num, .int a.den]) (.tuple [.int b.num, .int b.den]) = decide (a = b) := by
    simp only [PyData.eqv, PyData.eqvAll, Bool.and_true, beq_dec]
    by_cases h : a = b
    · subst h; simp
    · rw [decide_eq_false h, ← Bool.not_eq_true]
      intro z
      rw [Bool.and_eq_true, decide_eq_true_eq, decide_eq_true_eq] at z
      exact h (Rat.ext z.1 (by have := z.2; omega))
  exact e ▸ h
end
end DL
namespace DL
open PySem PySem.Spec PyProof.Rows L2
theorem atI_mem {α : Type} {xs : List α} {i : Int} (h0 : 0 ≤ i) (h1 : i < xs.length) : ∃ d, d ∈ xs ∧ atI xs i = some d := by
  have hl : i.toNat < xs.length := by omega
  refine ⟨xs[i.toNat], List.getElem_mem hl, ?_⟩
  have := atI_of (xs := xs) (n := i.toNat) (List.getElem?_eq_getElem hl)
  rw [Int.toNat_of_nonneg h0] at this
  exact this
theorem q_eqB {i j : Bool} {M : Mm} {Q : DQ} (h : Q (.bl (decide (i = j))) M) : dEqR (.bl i) (.bl j) M Q := .inl h
/-- most rounds of a width -/
def mostR : Nat → Nat
  | 1 => 8
  | 2 => 8
  | 3 => 5
  | 4 => 4
  | 5 => 3
  | _ => 0
def W5 (w : Nat) : Prop := 1 ≤ w ∧ w ≤ 5
theorem W5.cases {w : Nat} (h : W5 w) : w = 1 ∨ w = 2 ∨ w = 3 ∨ w = 4 ∨ w = 5 := by unfold W5 at h; omega
theorem mostR_le {w : Nat} : mostR w ≤ 8 := by unfold mostR; split <;> omega
/-- a value that is no count from lo to hi -/
def BadC (lo hi : Int) (d : Dt) : Prop := (∃ i : Int, d = .int i ∧ (i < lo ∨ hi < i)) ∨ ∃ b, d = .bl b
/-- data that _law_same tells, at most n deep -/
def Sm : Nat → Dt → Prop
  | 0, _ => False
  | _ + 1, .non => True
  | _ + 1, .bl _ => True
  | _ + 1, .int _ => True
  | _ + 1, .str _ => True
  | n + 1, .tup xs => xs.length < 2 ^ 61 ∧ ∀ x ∈ xs, Sm n x
  | n + 1, .lst xs => xs.length < 2 ^ 61 ∧ ∀ x ∈ xs, Sm n x
  | _, _ => False
theorem sm_fr {n : Nat} {q : Rat} : Sm (n + 2) (fr q) := by
  unfold fr
  refine ⟨by simp only [List.length_cons, List.length_nil]; omega, fun x hx => ?_⟩
  simp only [List.mem_cons, List.not_mem_nil, or_false] at hx
  rcases hx with rfl | rfl <;> trivial
/-- no list, no cell -/
def Flat : Dt → Prop
  | .non => True
  | .bl _ => True
  | .int _ => True
  | .str _ => True
  | .tup _ => True
  | _ => False
end DL
set_option Elab.async false
set_option linter.all false
set_option maxRecDepth 100000
set_option maxHeartbeats 4000000
/-! Plain layer: texts, beginnings. -/
namespace DL
open PySem PySem.Spec PyProof.Rows L2
def mkS (l : List Nat) : Str := ⟨l.toArray⟩
/-- the text of outcomes -/
def dg (l : List Nat) : Str := mkS (l.map (· + 48))
theorem mkS_len {l : List Nat} : (mkS l).length = l.length := by
  show l.toArray.size = l.length
  simp
theorem mkS_list {l : List Nat} : (mkS l).cps.toList = l := by simp [mkS]
theorem mkS_app {l r : List Nat} : mkS l ++ mkS r = mkS (l ++ r) := by
  show (⟨l.toArray ++ r.toArray⟩ : Str) = ⟨(l ++ r).toArray⟩
  rw [List.append_toArray]
theorem mkS_of (z : Str) : z = mkS z.cps.toList := by
  cases z; simp [mkS]
theorem mkS_inj {l r : List Nat} (h : mkS l = mkS r) : l = r := by
  have := congrArg (fun z : Str => z.cps.toList) h
  simpa [mkS] using this
theorem dg_len {l : List Nat} : (dg l).length = l.length := by unfold dg; rw [mkS_len, List.length_map]
theorem dg_app {l r : List Nat} : dg l ++ dg r = dg (l ++ r) := by unfold dg; rw [mkS_app, List.map_append]
theorem dg_inj {l r : List Nat} (h : dg l = dg r) : l = r := by
  have := mkS_inj h
  exact List.map_inj_right (fun a b e => by simpa using e) |>.mp this
theorem dg_eq {l r : List Nat} : decide (dg l = dg r) = decide (l = r) := by
  by_cases h : l = r
  · subst h; simp
  · rw [decide_eq_false h, decide_eq_false fun e => h (dg_inj e)]
theorem dg_nil : (Str.ofString "" : Str) = dg [] := by decide +kernel
theorem signs_mk {l : List Nat} : DL.signs (mkS l) = l.map fun c => .str (mkS [c]) := by
  unfold DL.signs
  rw [mkS_list]; rfl
theorem signs_dg {l : List Nat} : DL.signs (dg l) = l.map fun d => .str (dg [d]) := by
  unfold dg
  rw [signs_mk, List.map_map]; rfl
theorem dg_cps {l : List Nat} : (dg l).cps.toList = l.map (· + 48) := mkS_list
theorem cutS_mk {l : List Nat} {lo hi : Option Int} : cutS (mkS l) lo hi = mkS ((l.drop (HT.sIx l.length 0 lo)).take (HT.sIx l.length l.length hi - HT.sIx l.length 0 lo)) := by
  unfold cutS
  rw [mkS_list, mkS_len]; rfl
theorem cut_none_to {l : List Nat} {n : Nat} : cutS (mkS l) none (some (n : Int)) = mkS (l.take n) := by
  rw [cutS_mk, HT.sIx_none, HT.sIx_nat, List.drop_zero, Nat.sub_zero, List.take_eq_take_min (i := n)]
theorem cut_from_none {l : List Nat} {n : Nat} : cutS (mkS l) (some (n : Int)) none = mkS (l.drop n) := by
  rw [cutS_mk, HT.sIx_none, HT.sIx_nat]
  congr 1
  rw [List.take_of_length_le (by rw [List.length_drop]; omega)]
  rcases Nat.le_total n l.length with h | h
  · rw [Nat.min_eq_left h]
  · rw [Nat.min_eq_right h, List.drop_length, List.drop_eq_nil_of_le h]
theorem cut_from_to {l : List Nat} {n m : Nat} (hm : m ≤ l.length) : cutS (mkS l) (some (n : Int)) (some (m : Int)) = mkS ((l.drop n).take (m - n)) := by
  rw [cutS_mk, HT.sIx_nat, HT.sIx_nat]
  congr 1
  rcases Nat.le_total n l.length with h | h
  · rw [Nat.min_eq_left h, Nat.min_eq_left hm]
  · rw [Nat.min_eq_right h, List.drop_length, List.drop_eq_nil_of_le h, List.take_nil, List.take_nil]
theorem dg_take {l : List Nat} {n : Nat} : cutS (dg l) none (some (n : Int)) = dg (l.take n) := by unfold dg; rw [cut_none_to, List.map_take]
theorem dg_drop {l : List Nat} {n : Nat} : cutS (dg l) (some (n : Int)) none = dg (l.drop n) := by unfold dg; rw [cut_from_none, List.map_drop]
theorem letters_dg {w : Nat} (hw : W5 w) : cutS (Str.ofString "01234") none (some (w : Int)) = dg (List.range w) := by
  rcases hw.cases with rfl | rfl | rfl | rfl | rfl <;> decide +kernel
theorem digit_int {d : Nat} (h : d < 5) : PySem.intText? (dg [d]) = some (d : Int) := by
  have : d = 0 ∨ d = 1 ∨ d = 2 ∨ d = 3 ∨ d = 4 := by omega
  rcases this with rfl | rfl | rfl | rfl | rfl <;> decide +kernel
theorem q_intDg {d : Nat} (h : d < 5) {M : Mm} {Q : DQ} (hq : Q (.int d) M) : dInt [.str (dg [d])] M Q := by
  rw [q_intS]
  exact ⟨_, digit_int h, by rw [dg_len]; simp, hq⟩
theorem mem_dg {d : Nat} {l : List Nat} : (d + 48 ∈ (dg l).cps.toList) ↔ d ∈ l := by
  rw [dg_cps]
  constructor
  · intro h
    obtain ⟨e, he, h2⟩ := List.mem_map.mp h
    have : e = d := by simpa using h2
    exact this ▸ he
  · intro h
    exact List.mem_map.mpr ⟨d, h, rfl⟩

/-! ### beginnings -/
def nxtT (w : Nat) (ts : List (List Nat)) : List (List Nat) := ts.flatMap fun t => (List.range w).map fun d => t ++ [d]
def levT (w : Nat) : Nat → List (List Nat)
  | 0 => [[]]
  | n + 1 => nxtT w (levT w n)
def begs (w r : Nat) : List (List Nat) := (List.range r).flatMap (levT w)
def txs (ts : List (List Nat)) : List Dt := ts.map fun t => .str (dg t)
def offs (w : Nat) : Nat → Nat
  | 0 => 0
  | n + 1 => offs w n * w + 1
def idxF (w : Nat) (a : Nat) (l : List Nat) : Nat := l.foldl (fun a d => a * w + 1 + d) a
def idx (w : Nat) (t : List Nat) : Nat := idxF w 0 t
theorem idx_snoc {w : Nat} {t : List Nat} {d : Nat} : idx w (t ++ [d]) = idx w t * w + 1 + d := by
  unfold idx idxF
  rw [List.foldl_append]; rfl
theorem levT_len {w n : Nat} : (levT w n).length = w ^ n := by
  induction n with
  | zero => rfl
  | succ n ih =>
    show (nxtT w (levT w n)).length = _
    unfold nxtT
    rw [List.length_flatMap]
    simp only [List.length_map, List.length_range]
    rw [List.map_const', List.sum_replicate_nat, ih, Nat.pow_succ]
theorem levT_mem {w n : Nat} {t : List Nat} (h : t ∈ levT w n) : t.length = n ∧ ∀ d ∈ t, d < w := by
  induction n generalizing t with
  | zero =>
    have : t = [] := by simpa [levT] using h
    subst this
    exact ⟨rfl, fun _ h => by cases h⟩
  | succ n ih =>
    obtain ⟨s, hs, h⟩ := List.mem_flatMap.mp h
    obtain ⟨d, hd, rfl⟩ := List.mem_map.mp h
    obtain ⟨h1, h2⟩ := ih hs
    refine ⟨by simp [h1], fun e he => ?_⟩
    rcases List.mem_append.mp he with he | he
    · exact h2 e he
    · have : e = d := by simpa using he
      subst this
      exact List.mem_range.mp hd
theorem mem_levT {w : Nat} {t : List Nat} (h : ∀ d ∈ t, d < w) : t ∈ levT w t.length := by
  have key : ∀ n (t : List Nat), t.length = n → (∀ d ∈ t, d < w) → t ∈ levT w n := by
    intro n
    induction n with
    | zero =>
      intro t h _
      have : t = [] := List.length_eq_zero_iff.mp h
      subst this
      exact List.mem_cons_self
    | succ n ih =>
      intro t h hd
      have hne : t ≠ [] := by intro e; subst e; cases h
      have e := (List.dropLast_concat_getLast hne).symm
      refine List.mem_flatMap.mpr ⟨t.dropLast, ih _ (by rw [List.length_dropLast]; omega) (fun d hd' => hd d ((List.dropLast_sublist t).subset hd')), List.mem_map.mpr ⟨t.getLast hne, List.mem_range.mpr (hd _ (List.getLast_mem hne)), e.symm⟩⟩
  exact key _ t rfl h
theorem range'_flat {w : Nat} : ∀ (m s : Nat), (List.range' s m).flatMap (fun i => (List.range w).map fun d => i * w + 1 + d) = List.range' (s * w + 1) (m * w)
  | 0, s => by simp
  | m + 1, s => by
    rw [List.range'_succ, List.flatMap_cons, range'_flat m (s + 1), Nat.succ_mul m w, Nat.add_comm (m * w) w]
    rw [show (List.range w).map (fun d => s * w + 1 + d) = List.range' (s * w + 1) w by rw [List.range'_eq_map_range]]
    rw [show (s + 1) * w + 1 = s * w + 1 + 1 * w by rw [Nat.succ_mul]; omega]
    rw [← List.range'_append (s := s * w + 1) (m := w) (n := m * w) (step := 1)]
theorem levT_idx {w n : Nat} : (levT w n).map (idx w) = List.range' (offs w n) (w ^ n) := by
  induction n with
  | zero => rfl
  | succ n ih =>
    show (nxtT w (levT w n)).map (idx w) = _
    unfold nxtT
    rw [List.map_flatMap]
    have : (fun t => ((List.range w).map fun d => t ++ [d]).map (idx w)) = fun t => (fun i => (List.range w).map fun d => i * w + 1 + d) (idx w t) := by
      funext t
      rw [List.map_map]
      congr 1
      funext d
      exact idx_snoc
    rw [this, Nat.pow_succ]
    show _ = List.range' (offs w n * w + 1) (w ^ n * w)
    rw [← range'_flat, ← ih, List.flatMap_map]
theorem offs_add {w n : Nat} : offs w (n + 1) = offs w n + w ^ n := by
  induction n with
  | zero => simp [offs]
  | succ n ih =>
    show offs w (n + 1) * w + 1 = offs w (n + 1) + w ^ (n + 1)
    conv => lhs; rw [ih]
    conv => rhs; rw [show offs w (n + 1) = offs w n * w + 1 from rfl]
    rw [Nat.add_mul, Nat.pow_succ]; omega
theorem begs_idx {w r : Nat} : (begs w r).map (idx w) = List.range (offs w r) := by
  induction r with
  | zero => rfl
  | succ r ih =>
    unfold begs at ih ⊢
    rw [List.range_succ, List.flatMap_append, List.map_append, ih, List.flatMap_singleton, levT_idx, offs_add, List.range_eq_range', List.range_eq_range']
    have := List.range'_append (s := 0) (m := offs w r) (n := w ^ r) (step := 1)
    simpa using this
theorem begs_len {w r : Nat} : (begs w r).length = offs w r := by
  have := congrArg List.length (begs_idx (w := w) (r := r))
  simpa using this
theorem begs_mem {w r : Nat} {t : List Nat} : t ∈ begs w r ↔ t.length < r ∧ ∀ d ∈ t, d < w := by
  unfold begs
  rw [List.mem_flatMap]
  constructor
  · rintro ⟨n, hn, h⟩
    obtain ⟨h1, h2⟩ := levT_mem h
    exact ⟨by rw [h1]; exact List.mem_range.mp hn, h2⟩
  · rintro ⟨h1, h2⟩
    exact ⟨t.length, List.mem_range.mpr h1, mem_levT h2⟩
/-- the beginning number i -/
theorem begs_at {w r : Nat} {t : List Nat} (h : t ∈ begs w r) : (begs w r)[idx w t]? = some t ∧ idx w t < offs w r := by
  obtain ⟨i, hi, e⟩ := List.getElem_of_mem h
  have h1 : ((begs w r).map (idx w))[i]? = some (idx w t) := by
    rw [List.getElem?_map, List.getElem?_eq_getElem hi, e]; rfl
  rw [begs_idx] at h1
  have hi' : i < offs w r := by rw [begs_len] at hi; exact hi
  rw [List.getElem?_range hi'] at h1
  have : i = idx w t := Option.some.inj h1
  subst this
  exact ⟨by rw [List.getElem?_eq_getElem hi, e], hi'⟩
theorem begs_nodup {w r : Nat} : (begs w r).Nodup := by
  have h : ((begs w r).map (idx w)).Nodup := by rw [begs_idx]; exact List.nodup_range
  exact List.Pairwise.of_map (idx w) (fun a b h e => h (e ▸ rfl)) h
end DL
namespace DL
open PySem PySem.Spec PyProof.Rows L2
/-- two fors, nothing changes -/
theorem lc2_map {α β : Type} {g g1 : DTG} {te : DTE} {w1 : DTI} {vs1 : List Nat} {st : Mm → Prop} {ds : DSt} {Q : List Dt → Mm → Prop} {e : α → Dt} (inner : α → List β) (f : α → β → Dt) {M : Mm} (hJ : st M) :
    ∀ (xs : List α) (acc : List Dt), (∀ (x : α) (acc : List Dt) (K : List Dt → Mm → Prop), x ∈ xs → acc.length + (inner x).length ≤ sizeLine → K (acc ++ (inner x).map (f x)) M → g (e x) ds M fun ds' M' => w1 ds' M' fun I1 M3 => dLcL g1 dYes te I1.still (wipeD ds' vs1) K I1.items acc M3) →
      acc.length + (xs.flatMap inner).length ≤ sizeLine → Q (acc ++ xs.flatMap fun x => (inner x).map (f x)) M → dLc2L g dYes w1 g1 dYes te vs1 st ds Q (xs.map e) acc M
  | [], acc, _, _, hq => ⟨hJ, by simpa using hq⟩
  | x :: r, acc, he, hl, hq => by
    rw [List.flatMap_cons, List.length_append] at hl
    refine ⟨hJ, ?_⟩
    have := he x acc (fun acc' M4 => dLc2L g dYes w1 g1 dYes te vs1 st ds Q (r.map e) acc' M4) List.mem_cons_self (by omega) ?_
    · exact this
    · refine lc2_map inner f hJ r _ (fun y acc K hy => he y acc K (List.mem_cons_of_mem _ hy)) (by rw [List.length_append, List.length_map]; omega) ?_
      rw [List.flatMap_cons] at hq
      rw [List.append_assoc]
      exact hq
theorem pow_w {w n : Nat} (hw : W5 w) (hn : n ≤ 9) : w ^ n ≤ 1953125 := by
  have h1 : w ^ n ≤ 5 ^ n := Nat.pow_le_pow_left hw.2 n
  have h2 : 5 ^ n ≤ 5 ^ 9 := Nat.pow_le_pow_right (by decide) hn
  omega
theorem offs_le {w n : Nat} (hw : W5 w) (hn : n ≤ 8) : offs w n ≤ 15625000 := by
  have key : ∀ n, n ≤ 8 → offs w n ≤ n * 1953125 := by
    intro n
    induction n with
    | zero => intro _; exact Nat.le_refl _
    | succ n ih =>
      intro h
      rw [offs_add]
      have := ih (by omega)
      have := pow_w hw (n := n) (by omega)
      omega
  have := key n hn
  omega
end DL
namespace DL
theorem small {w i : Nat} (hw : W5 w) (hi : i ≤ mostR w) : offs w i ≤ 255 ∧ w ^ i ≤ 256 := by
  have key : ∀ w ∈ [1, 2, 3, 4, 5], ∀ i, i < mostR w + 1 → offs w i ≤ 255 ∧ w ^ i ≤ 256 := by decide
  refine key w ?_ i (by omega)
  rcases hw.cases with rfl | rfl | rfl | rfl | rfl <;> simp
/-! numbers and sharings -/
open PySem PySem.Spec PyProof.Rows L2
/-- d is a number worth q -/
def Num (q : Rat) (d : Dt) : Prop := (∃ i : Int, q = i ∧ d = .int i) ∨ ∃ a b : Int, 0 < b ∧ b.natAbs < 2 ^ 4000 ∧ q = mkRat a b.toNat ∧ d = .tup [.int a, .int b]
theorem num_fr {q : Rat} {n : Nat} (h : Sz n q) (hn : n ≤ 4000) : Num q (fr q) :=
  .inr ⟨q.num, q.den, den_pos q, Nat.lt_of_lt_of_le (nad h) (Nat.pow_le_pow_right (by decide) hn), by rw [Int.toNat_natCast, Rat.mkRat_self], rfl⟩
def sumR (qs : List Rat) : Rat := qs.foldl (· + ·) 0
def frs (qs : List Rat) : List Dt := qs.map fr
theorem sz_foldl {n : Nat} : ∀ (qs : List Rat) (m : Nat) (a : Rat), Sz m a → (∀ q ∈ qs, Sz n q) → Sz (m + qs.length * (n + 1)) (qs.foldl (· + ·) a)
  | [], m, a, h, _ => by simpa using h
  | q :: r, m, a, h, hq => by
    have := sz_foldl r (m + n + 1) (a + q) (h.add (hq q List.mem_cons_self) (Nat.le_refl _)) (fun x hx => hq x (List.mem_cons_of_mem _ hx))
    refine this.mono ?_
    rw [List.length_cons, Nat.succ_mul]; omega
theorem sz_sumR {n : Nat} {qs : List Rat} (h : ∀ q ∈ qs, Sz n q) : Sz (1 + qs.length * (n + 1)) (sumR qs) := sz_foldl qs 1 0 sz_0 h
/-- a sharing of w outcomes, with parts of at most n bits -/
structure Shr (n w : Nat) (qs : List Rat) : Prop where
  len : qs.length = w
  pos : ∀ q ∈ qs, 0 ≤ q
  sz : ∀ q ∈ qs, Sz n q
  one : sumR qs = 1
def shD (s : List Rat) : Dt := .tup (frs s)
def plcD (w r : Nat) (S : List (List Rat)) : List (Key × Dt) := ((begs w r).zip S).map fun p => (.inr (dg p.1), shD p.2)
def planD (w r : Nat) (S : List (List Rat)) : Dt := .obj "Plan" [("held_width", .int w), ("held_rounds", .int r), ("held_shares", .tup (S.map shD)), ("held_places", .dic (plcD w r S))]
/-- the shares of a plan -/
structure Shs (n w r : Nat) (S : List (List Rat)) : Prop where
  len : S.length = offs w r
  each : ∀ s ∈ S, Shr n w s
theorem zipD_map {α β : Type} {f : α → Dt} {g : β → Dt} : ∀ (xs : List α) (ys : List β), zipD (xs.map f) (ys.map g) = (xs.zip ys).map fun p => .tup [f p.1, g p.2]
  | [], _ => by simp [zipD]
  | _ :: _, [] => by simp [zipD]
  | x :: xs, y :: ys => by simp [zipD, zipD_map xs ys]
theorem zipD_rel {α : Type} {f : α → Dt} : ∀ (xs : List α) (ys : List Dt), zipD ys (xs.map f) = (ys.zip xs).map fun p => .tup [p.1, f p.2]
  | [], _ => by cases ‹List Dt› <;> simp [zipD]
  | _ :: _, [] => by simp [zipD]
  | x :: xs, y :: ys => by simp [zipD, zipD_rel xs ys]
theorem putKD_new {kvs : List (Key × Dt)} {k : Key} {v : Dt} (h : k ∉ kvs.map (·.1)) : putKD kvs k v = kvs ++ [(k, v)] := by
  unfold putKD
  rw [if_neg]
  rw [List.any_eq_true]
  rintro ⟨x, hx, e⟩
  exact h (List.mem_map.mpr ⟨x, hx, of_decide_eq_true e⟩)
/-- a dict from a walk with keys that are apart -/
theorem dc_map {α : Type} {g : DTG} {tk tv : DTE} {st : Mm → Prop} {ds : DSt} {Q : List (Key × Dt) → Mm → Prop} {e : α → Dt} (fk : α → Key) (fv : α → Dt) {M : Mm} (hJ : st M) :
    ∀ (xs : List α) (acc : List (Key × Dt)), (∀ (x : α) (N : Dt → Dt → Mm → Prop), x ∈ xs → (∀ k, keyD k = some (fk x) → N k (fv x) M) → g (e x) ds M fun ds' M' => tk ds' M' fun y M2 => tv ds' M2 fun z M3 => N y z M3) →
      (acc.map (·.1) ++ xs.map fk).Nodup → acc.length + xs.length ≤ sizeLine → Q (acc ++ xs.map fun x => (fk x, fv x)) M → dDcL g tk tv st ds Q (xs.map e) acc M
  | [], acc, _, _, _, hq => ⟨hJ, by simpa using hq⟩
  | x :: r, acc, he, hn, hl, hq => by
    refine ⟨hJ, ?_⟩
    have hl' : acc.length + (r.length + 1) ≤ sizeLine := hl
    refine he x (fun y z M3 => ∃ k, keyD y = some k ∧ acc.length < sizeLine ∧ dDcL g tk tv st ds Q (r.map e) (putKD acc k z) M3) List.mem_cons_self fun k hk => ⟨_, hk, by omega, ?_⟩
    have hk' : fk x ∉ acc.map (·.1) := fun h => by
      rw [List.nodup_append] at hn
      exact hn.2.2 _ h _ List.mem_cons_self rfl
    rw [putKD_new hk']
    refine dc_map fk fv hJ r _ (fun y N hy => he y N (List.mem_cons_of_mem _ hy)) ?_ (by simp only [List.length_append, List.length_cons, List.length_nil]; omega) ?_
    · rw [List.map_append, List.append_assoc]; exact hn
    · rw [List.append_assoc]; exact hq
theorem valD_zip {ks : List (List Nat)} {vs : List (List Rat)} {i : Nat} {t : List Nat} {s : List Rat} (hn : ks.Nodup) (h1 : ks[i]? = some t) (h2 : vs[i]? = some s) :
    valD ((ks.zip vs).map fun p => ((.inr (dg p.1) : Key), shD p.2)) (.inr (dg t)) = some (shD s) := by
  unfold valD
  induction ks generalizing vs i with
  | nil => simp at h1
  | cons k ks ih =>
    cases vs with
    | nil => simp at h2
    | cons v vs =>
      cases i with
      | zero =>
        have e1 : k = t := by simpa using h1
        have e2 : v = s := by simpa using h2
        subst e1 e2
        simp
      | succ i =>
        have h1' : ks[i]? = some t := by simpa using h1
        have hk : k ≠ t := by
          intro e; subst e
          exact (List.nodup_cons.mp hn).1 (List.mem_of_getElem? h1')
        have hk2 : ¬ ((.inr (dg k) : Key) = .inr (dg t)) := fun e => hk (dg_inj (Sum.inr.inj e))
        rw [List.zip_cons_cons, List.map_cons, List.find?_cons, decide_eq_false hk2]
        exact ih (List.nodup_cons.mp hn).2 h1' (by simpa using h2)
theorem valD_plc {w r : Nat} {S : List (List Rat)} {t : List Nat} {s : List Rat} (ht : t ∈ begs w r) (hs : S[idx w t]? = some s) : valD (plcD w r S) (.inr (dg t)) = some (shD s) :=
  valD_zip begs_nodup (begs_at ht).1 hs
theorem Rel2.mem {α β : Type} {R : α → β → Prop} : ∀ {as : List α} {bs : List β}, Rel2 R as bs → ∀ a ∈ as, ∃ b ∈ bs, R a b
  | _, _, .nil, _, h => by cases h
  | _, _, .cons r t, a, h => by
    rcases List.mem_cons.mp h with e | e
    · subst e; exact ⟨_, List.mem_cons_self, r⟩
    · obtain ⟨b, hb, h2⟩ := t.mem a e
      exact ⟨b, List.mem_cons_of_mem _ hb, h2⟩
/-- the elements as typed values -/
theorem Rel2.typed {α β : Type} {R : α → Dt → Prop} {f : β → Dt} {T : α → β → Prop} (hR : ∀ a d, R a d → ∃ b, d = f b ∧ T a b) : ∀ {as : List α} {ds : List Dt}, Rel2 R as ds → ∃ bs, ds = bs.map f ∧ Rel2 T as bs
  | _, _, .nil => ⟨[], rfl, .nil⟩
  | _, _, .cons r t => by
    obtain ⟨b, rfl, hb⟩ := hR _ _ r
    obtain ⟨bs, rfl, hbs⟩ := Rel2.typed hR t
    exact ⟨b :: bs, rfl, .cons hb hbs⟩
theorem Rel2.right {α β : Type} {R : α → β → Prop} {P : β → Prop} (hR : ∀ a b, R a b → P b) : ∀ {as : List α} {bs : List β}, Rel2 R as bs → ∀ b ∈ bs, P b
  | _, _, .nil, _, h => by cases h
  | _, _, .cons r t, b, h => by
    rcases List.mem_cons.mp h with e | e
    · subst e; exact hR _ _ r
    · exact t.right hR b e
/-- a comprehension over items that stand for typed values -/
theorem lc_rel2 {α : Type} {g : DTG} {te : DTE} {st : Mm → Prop} {ds : DSt} {Q : List Dt → Mm → Prop} (R : α → Dt → Prop) (f : α → Dt) {M : Mm} (hJ : st M) (he : ∀ (a : α) (d : Dt) (N : DQ), R a d → N (f a) M → g d ds M fun ds' M' => te ds' M' N) :
    ∀ (as : List α) (xs : List Dt) (acc : List Dt), Rel2 R as xs → acc.length + xs.length ≤ sizeLine → Q (acc ++ as.map f) M → dLcL g dYes te st ds Q xs acc M
  | [], _, acc, .nil, _, hq => ⟨hJ, by simpa using hq⟩
  | a :: as, _ :: xs, acc, .cons r t, hl, hq => by
    refine ⟨hJ, ?_⟩
    have hl' : acc.length + (xs.length + 1) ≤ sizeLine := hl
    refine he a _ (fun y M3 => acc.length < sizeLine ∧ dLcL g dYes te st ds Q xs (acc ++ [y]) M3) r ⟨by omega, ?_⟩
    refine lc_rel2 R f hJ he as xs (acc ++ [f a]) t (by simp only [List.length_append, List.length_cons, List.length_nil]; omega) ?_
    rw [List.append_assoc]
    exact hq
theorem Rel2.zip {α β : Type} {R : α → Dt → Prop} {e : β → Dt} : ∀ {as : List α} {xs : List Dt} (bs : List β), Rel2 R as xs → Rel2 (fun (p : α × β) d => ∃ y, d = .tup [y, e p.2] ∧ R p.1 y) (as.zip bs) (zipD xs (bs.map e))
  | _, _, [], r => by
    cases r <;> simp [zipD] <;> exact .nil
  | _, _, _ :: _, .nil => by simp [zipD]; exact .nil
  | _, _, b :: bs, .cons r t => .cons ⟨_, rfl, r⟩ (Rel2.zip bs t)
theorem putD_cons {f g : Str} {v x : Dt} {r : List (Str × Dt)} (h : g ≠ f) : putD f v ((g, x) :: r) = (g, x) :: putD f v r := if_neg h
theorem putD_nil {f : Str} {v : Dt} : putD f v [] = [(f, v)] := rfl
theorem put_pl1 {v a : Dt} : putD "held_rounds" v [("held_width", a)] = ([("held_width", a), ("held_rounds", v)] : List (Str × Dt)) := by
  rw [putD_cons (by decide +kernel)]; rfl
theorem put_pl2 {v a b : Dt} : putD "held_shares" v [("held_width", a), ("held_rounds", b)] = ([("held_width", a), ("held_rounds", b), ("held_shares", v)] : List (Str × Dt)) := by
  rw [putD_cons (by decide +kernel), putD_cons (by decide +kernel)]; rfl
theorem put_pl3 {v a b c : Dt} : putD "held_places" v [("held_width", a), ("held_rounds", b), ("held_shares", c)] = ([("held_width", a), ("held_rounds", b), ("held_shares", c), ("held_places", v)] : List (Str × Dt)) := by
  rw [putD_cons (by decide +kernel), putD_cons (by decide +kernel), putD_cons (by decide +kernel)]; rfl
theorem look_cons {f g : Str} {x : Dt} {r : List (Str × Dt)} (h : (f == g) = false) : ((g, x) :: r).lookup f = r.lookup f := by
  rw [List.lookup_cons, h]
theorem look_here {f : Str} {x : Dt} {r : List (Str × Dt)} : ((f, x) :: r).lookup f = some x := by
  rw [List.lookup_cons]; simp
theorem zip_map_fst {α β γ : Type} {f : α → γ} : ∀ (as : List α) (bs : List β), as.length = bs.length → (as.zip bs).map (fun p => f p.1) = as.map f
  | [], _, _ => by simp
  | _ :: _, [], h => by cases h
  | a :: as, b :: bs, h => by
    rw [List.zip_cons_cons, List.map_cons, List.map_cons, zip_map_fst as bs (by simpa using h)]
theorem zip_keys {α β γ : Type} {f : α → γ} : ∀ (as : List α) (bs : List β), as.length = bs.length → (as.zip bs).map (fun p => f p.1) = as.map f := zip_map_fst
theorem Rel2.imp {α β : Type} {R T : α → β → Prop} (h : ∀ a b, R a b → T a b) : ∀ {as : List α} {bs : List β}, Rel2 R as bs → Rel2 T as bs
  | _, _, .nil => .nil
  | _, _, .cons r t => .cons (h _ _ r) (t.imp h)
theorem Rel2.withMem {α β : Type} {R : α → β → Prop} : ∀ {as : List α} {bs : List β}, Rel2 R as bs → Rel2 (fun a b => R a b ∧ a ∈ as) as bs
  | _, _, .nil => .nil
  | _, _, .cons r t => .cons ⟨r, List.mem_cons_self⟩ (t.withMem.imp fun _ _ h => ⟨h.1, List.mem_cons_of_mem _ h.2⟩)
theorem lk_pl0 {a b c d : Dt} : List.lookup ("held_width" : Str) ([("held_width", a), ("held_rounds", b), ("held_shares", c), ("held_places", d)] : List (Str × Dt)) = some a := by
  rw [look_here]
theorem lk_pl1 {a b c d : Dt} : List.lookup ("held_rounds" : Str) ([("held_width", a), ("held_rounds", b), ("held_shares", c), ("held_places", d)] : List (Str × Dt)) = some b := by
  rw [look_cons (by decide +kernel), look_here]
theorem lk_pl2 {a b c d : Dt} : List.lookup ("held_shares" : Str) ([("held_width", a), ("held_rounds", b), ("held_shares", c), ("held_places", d)] : List (Str × Dt)) = some c := by
  rw [look_cons (by decide +kernel), look_cons (by decide +kernel), look_here]
theorem lk_pl3 {a b c d : Dt} : List.lookup ("held_places" : Str) ([("held_width", a), ("held_rounds", b), ("held_shares", c), ("held_places", d)] : List (Str × Dt)) = some d := by
  rw [look_cons (by decide +kernel), look_cons (by decide +kernel), look_cons (by decide +kernel), look_here]
theorem not_held {w r : Nat} {S : List (List Rat)} {z : Str} (h : ∀ t ∈ begs w r, z ≠ dg t) : valD (plcD w r S) (.inr z) = none := by
  unfold valD plcD
  have : (((begs w r).zip S).map fun p => ((.inr (dg p.1) : Key), shD p.2)).find? (fun kv => decide (kv.1 = .inr z)) = none := by
    rw [List.find?_eq_none]
    intro x hx
    obtain ⟨⟨t, s⟩, hp, rfl⟩ := List.mem_map.mp hx
    have ht : t ∈ begs w r := (List.of_mem_zip hp).1
    intro e
    have := of_decide_eq_true e
    exact h t ht (Sum.inr.inj this).symm
  rw [this]; rfl
theorem sum_set : ∀ (ks : List Int) (j : Nat) (k v : Int), ks[j]? = some k → (ks.set j v).sum = ks.sum - k + v
  | [], j, k, v, h => by simp at h
  | x :: r, 0, k, v, h => by
    have : x = k := by simpa using h
    subst this
    rw [List.set_cons_zero, List.sum_cons, List.sum_cons]; omega
  | x :: r, j + 1, k, v, h => by
    rw [List.set_cons_succ, List.sum_cons, List.sum_cons, sum_set r j k v (by simpa using h)]; omega
theorem sum_le {m : Int} : ∀ (ks : List Int), (∀ k ∈ ks, 0 ≤ k ∧ k ≤ m) → 0 ≤ ks.sum ∧ ks.sum ≤ ks.length * m
  | [], _ => by simp
  | x :: r, h => by
    have h1 := h x List.mem_cons_self
    have h2 := sum_le r fun k hk => h k (List.mem_cons_of_mem _ hk)
    rw [List.sum_cons, List.length_cons, Int.natCast_add, Int.add_mul]
    omega
theorem mk_add {a b : Int} {W : Nat} (h : W ≠ 0) : mkRat a W + mkRat b W = mkRat (a + b) W := by
  rw [Rat.mkRat_add_mkRat _ _ h h, ← Int.add_mul, Rat.mkRat_mul_right h]
theorem mk_self {W : Nat} (h : W ≠ 0) : mkRat (W : Int) W = 1 := by
  have : (1 : Rat) = mkRat 1 1 := rfl
  rw [this, Rat.mkRat_eq_iff h (by decide)]
  omega
theorem sum_mk {W : Nat} (h : W ≠ 0) : ∀ (ks : List Int) (a : Int), (ks.map fun k => mkRat k W).foldl (· + ·) (mkRat a W) = mkRat (a + ks.sum) W
  | [], a => by simp
  | k :: r, a => by
    rw [List.map_cons, List.foldl_cons, mk_add h, sum_mk h r, List.sum_cons, Int.add_assoc]
theorem mk_zero {W : Nat} : mkRat 0 W = 0 := by simp
/-- weights by their sum are a sharing -/
theorem shr_weights {ks : List Int} {w : Nat} (hl : ks.length = w) (h0 : ∀ k ∈ ks, 0 ≤ k ∧ k ≤ 6) (hw : w ≤ 5) (hs : 0 < ks.sum) : Shr 6 w (ks.map fun k => mkRat k ks.sum.toNat) := by
  have hb := sum_le ks h0
  have hW : ks.sum.toNat ≠ 0 := by omega
  refine ⟨by rw [List.length_map]; exact hl, fun q hq => ?_, fun q hq => ?_, ?_⟩
  · obtain ⟨k, hk, rfl⟩ := List.mem_map.mp hq
    rw [← Rat.num_nonneg, (mk_parts hW).1]
    exact Int.ediv_nonneg (h0 k hk).1 (by omega)
  · obtain ⟨k, hk, rfl⟩ := List.mem_map.mp hq
    have := h0 k hk
    exact sz_mk (by omega) (by omega) hW
  · unfold sumR
    have := sum_mk hW ks 0
    rw [mk_zero, Int.zero_add] at this
    rw [this]
    have e : ks.sum = ((ks.sum.toNat : Nat) : Int) := by omega
    conv => lhs; arg 1; rw [e]
    exact mk_self hW
/-- weights by their sum are a sharing -/
theorem shr_weights7 {ks : List Int} {w : Nat} (hl : ks.length = w) (h0 : ∀ k ∈ ks, 0 ≤ k ∧ k ≤ 7) (hw : w ≤ 5) (hs : 0 < ks.sum) : Shr 6 w (ks.map fun k => mkRat k ks.sum.toNat) := by
  have hb := sum_le ks h0
  have hW : ks.sum.toNat ≠ 0 := by omega
  refine ⟨by rw [List.length_map]; exact hl, fun q hq => ?_, fun q hq => ?_, ?_⟩
  · obtain ⟨k, hk, rfl⟩ := List.mem_map.mp hq
    rw [← Rat.num_nonneg, (mk_parts hW).1]
    exact Int.ediv_nonneg (h0 k hk).1 (by omega)
  · obtain ⟨k, hk, rfl⟩ := List.mem_map.mp hq
    have := h0 k hk
    exact sz_mk (by omega) (by omega) hW
  · unfold sumR
    have := sum_mk hW ks 0
    rw [mk_zero, Int.zero_add] at this
    rw [this]
    have e : ks.sum = ((ks.sum.toNat : Nat) : Int) := by omega
    conv => lhs; arg 1; rw [e]
    exact mk_self hW
theorem rel2_ints {α : Type} {P : Int → Prop} {as : List α} {ds : List Dt} (h : Rel2 (fun _ d => ∃ k : Int, d = .int k ∧ P k) as ds) : ∃ ks : List Int, ds = ks.map .int ∧ ks.length = as.length ∧ ∀ k ∈ ks, P k := by
  obtain ⟨ks, rfl, hk⟩ := h.typed (f := Dt.int) (T := fun _ k => P k) fun a d ⟨k, e, p⟩ => ⟨k, e, p⟩
  exact ⟨ks, rfl, hk.length.symm, fun k hk' => hk.right (P := P) (fun _ _ h => h) k hk'⟩
theorem intsD_mp {ks : List Int} : intsD (ks.map .int) = some ks := by
  induction ks with
  | nil => rfl
  | cons k ks ih =>
    show (intsD (ks.map .int)).map (k :: ·) = _
    rw [ih]; rfl
theorem rat_of_den1 {q : Rat} (h : q.den = 1) : q = (q.num : Rat) := Rat.ext (by rw [Rat.num_intCast]) (by rw [Rat.den_intCast, h])
theorem num_mul {q : Rat} {k : Int} {n : Nat} (h : Sz n q) (hn : n ≤ 3000) (h1 : 0 < k) (h2 : k < 2 ^ 60) : Num q (.tup [.int (q.num * k), .int (q.den * k)]) := by
  obtain ⟨m, rfl⟩ := Int.eq_ofNat_of_zero_le (Int.le_of_lt h1)
  have hd := den_pos q
  refine .inr ⟨_, _, Int.mul_pos hd h1, Nat.lt_of_lt_of_le (nab (nad h) (by omega : (m : Int).natAbs < 2 ^ 60)) (Nat.pow_le_pow_right (by decide) (by omega)), ?_, rfl⟩
  rw [← Int.natCast_mul, Int.toNat_natCast, Rat.mkRat_mul_right (by omega), Rat.mkRat_self]
theorem sum_pows {w : Nat} : ∀ r : Nat, ((List.range r).map fun i => ((w ^ i : Nat) : Int)).sum = (offs w r : Nat)
  | 0 => rfl
  | r + 1 => by
    rw [List.range_succ, List.map_append, List.sum_append, sum_pows r, offs_add]
    simp
theorem mdel_back {M M1 M2 : Mm} {p : Addr} {d : Dt} (hp : M p = none) (h : ∀ b, b ≠ p → M2 b = M1 b) (h1 : ∀ b, b ≠ p → M1 b = M b) : mdel M2 p = M := by
  funext b
  by_cases hb : b = p
  · subst hb; unfold mdel; rw [if_pos rfl, hp]
  · rw [mdel_ne hb, h b hb, h1 b hb]
theorem cutD_to {xs : List Dt} {n : Nat} : cutD xs none (some (n : Int)) = xs.take n := by
  unfold cutD
  rw [HT.sIx_none, HT.sIx_nat, List.drop_zero, Nat.sub_zero, List.take_eq_take_min (i := n)]
theorem cutD_from {xs : List Dt} {n : Nat} : cutD xs (some (n : Int)) none = xs.drop n := by
  unfold cutD
  rw [HT.sIx_none, HT.sIx_nat]
  rw [List.take_of_length_le (by rw [List.length_drop]; omega)]
  rcases Nat.le_total n xs.length with h | h
  · rw [Nat.min_eq_left h]
  · rw [Nat.min_eq_right h, List.drop_length, List.drop_eq_nil_of_le h]
theorem cutD_ft {xs : List Dt} {n m : Nat} (hm : m ≤ xs.length) : cutD xs (some (n : Int)) (some (m : Int)) = (xs.drop n).take (m - n) := by
  unfold cutD
  rw [HT.sIx_nat, HT.sIx_nat]
  rcases Nat.le_total n xs.length with h | h
  · rw [Nat.min_eq_left h, Nat.min_eq_left hm]
  · rw [Nat.min_eq_right h, List.drop_length, List.drop_eq_nil_of_le h, List.take_nil, List.take_nil]
/-! misses on a row -/
def shAt (S : List (List Rat)) (a d : Nat) : Rat := (S.getD a []).getD d 0
def shF (w : Nat) (S : List (List Rat)) : Nat → List Nat → List Rat
  | _, [] => []
  | a, d :: r => shAt S a d :: shF w S (a * w + 1 + d) r
def stF (w : Nat) (S : List (List Rat)) (a : Nat) (t : List Nat) : List Rat := (shF w S a t).map fun q => 1 - q
def missOn (w : Nat) (S : List (List Rat)) (t : List Nat) : Rat := sumR (stF w S 0 t)
theorem shF_len {w : Nat} {S : List (List Rat)} : ∀ (t : List Nat) (a : Nat), (shF w S a t).length = t.length
  | [], _ => rfl
  | _ :: r, a => congrArg Nat.succ (shF_len r _)
theorem stF_len {w : Nat} {S : List (List Rat)} {t : List Nat} {a : Nat} : (stF w S a t).length = t.length := by unfold stF; rw [List.length_map, shF_len]
theorem shF_take {w : Nat} {S : List (List Rat)} : ∀ (t : List Nat) (a n : Nat), shF w S a (t.take n) = (shF w S a t).take n
  | [], _, _ => by simp [shF]
  | _ :: _, _, 0 => rfl
  | d :: r, a, n + 1 => by
    show shAt S a d :: shF w S _ (r.take n) = shAt S a d :: (shF w S _ r).take n
    rw [shF_take r]
theorem stF_take {w : Nat} {S : List (List Rat)} {t : List Nat} {a n : Nat} : stF w S a (t.take n) = (stF w S a t).take n := by
  unfold stF; rw [shF_take, List.map_take]
theorem idx_app {w : Nat} {t : List Nat} {d : Nat} : idx w (t ++ [d]) = idx w t * w + 1 + d := idx_snoc
theorem shF_enum {w : Nat} {S : List (List Rat)} : ∀ (r pre : List Nat), (r.zipIdx pre.length).map (fun p => shAt S (idx w ((pre ++ r).take p.2)) p.1) = shF w S (idx w pre) r
  | [], _ => rfl
  | d :: r, pre => by
    have ih := shF_enum (w := w) (S := S) r (pre ++ [d])
    rw [List.zipIdx_cons, List.map_cons]
    show shAt S (idx w ((pre ++ d :: r).take pre.length)) d :: _ = shAt S (idx w pre) d :: shF w S (idx w pre * w + 1 + d) r
    rw [List.take_left', ← idx_snoc]
    · rw [List.append_assoc, List.length_append] at ih
      exact congrArg _ ih
    · rfl
theorem enumD_map {α : Type} {e : α → Dt} : ∀ (l : List α) (n : Nat), enumD n (l.map e) = (l.zipIdx n).map fun p => .tup [.int (p.2 : Nat), e p.1]
  | [], _ => rfl
  | x :: r, n => by
    rw [List.zipIdx_cons, List.map_cons, List.map_cons, ← enumD_map r (n + 1)]; rfl
theorem foldl_add : ∀ (l : List Rat) (a : Rat), l.foldl (· + ·) a = a + l.foldl (· + ·) 0
  | [], a => by simp [Rat.add_zero]
  | x :: r, a => by
    rw [List.foldl_cons, List.foldl_cons, foldl_add r (a + x), foldl_add r (0 + x), Rat.zero_add, Rat.add_assoc]
theorem sumR_append {l r : List Rat} : sumR (l ++ r) = sumR l + sumR r := by
  unfold sumR
  rw [List.foldl_append, foldl_add r]
theorem sumR_snoc {l : List Rat} {x : Rat} : sumR (l ++ [x]) = sumR l + x := by
  rw [sumR_append]
  congr 1
  show (0 : Rat) + x = x
  rw [Rat.zero_add]
/-- a stretch is the misses to its end less those to its start -/
theorem miss_part {w : Nat} {S : List (List Rat)} {t : List Nat} {s k : Nat} : missOn w S (t.take (s + k)) - missOn w S (t.take s) = sumR (((stF w S 0 t).drop s).take k) := by
  unfold missOn
  rw [stF_take, stF_take, List.take_add, sumR_append]
  grind
/-- the shares of a plan are small -/
theorem sh_sz {n w r : Nat} {S : List (List Rat)} (hS : Shs n w r S) (hn : 1 ≤ n) {a d : Nat} : Sz n (shAt S a d) := by
  unfold shAt
  rw [List.getD_eq_getElem?_getD, List.getD_eq_getElem?_getD]
  cases h : S[a]? with
  | none => simpa using sz_0.mono hn
  | some s =>
    have hs := hS.each s (List.mem_of_getElem? h)
    cases h2 : s[d]? with
    | none => simpa [h2] using sz_0.mono hn
    | some q => simpa [h2] using hs.sz q (List.mem_of_getElem? h2)
theorem sh_here {n w r : Nat} {S : List (List Rat)} (hS : Shs n w r S) {t : List Nat} {d : Nat} (ht : t ∈ begs w r) (hd : d < w) : ∃ s, S[idx w t]? = some s ∧ s[d]? = some (shAt S (idx w t) d) := by
  have h1 := (begs_at ht).2
  have h2 : idx w t < S.length := by rw [hS.len]; exact h1
  have e1 := List.getElem?_eq_getElem h2
  have h3 : d < (S[idx w t]).length := by rw [(hS.each _ (List.getElem_mem h2)).len]; exact hd
  refine ⟨_, e1, ?_⟩
  unfold shAt
  rw [List.getD_eq_getElem?_getD, List.getD_eq_getElem?_getD, e1, Option.getD_some, List.getElem?_eq_getElem h3]; rfl
theorem st_sz {n w r : Nat} {S : List (List Rat)} (hS : Shs n w r S) (hn : 1 ≤ n) : ∀ (t : List Nat) (a : Nat), ∀ q ∈ stF w S a t, Sz (n + 2) q
  | [], _, _, h => by cases h
  | d :: t, a, q, h => by
    rcases List.mem_cons.mp h with e | e
    · subst e
      exact sz_1.sub (sh_sz hS hn) (by omega)
    · exact st_sz hS hn t _ q e
/-! cutting -/
def lenD' (ks : List Nat) : List Dt := ks.map fun (k : Nat) => Dt.int (k : Int)
/-- lengths from 0 to 8 that sum to n -/
structure Lens (n : Nat) (ks : List Nat) : Prop where
  le : ∀ k ∈ ks, k ≤ 8
  sum : ks.sum = n
def partsAt {α : Type} (f : Nat → Nat → α) : Nat → List Nat → List α
  | _, [] => []
  | s, k :: ks => f s k :: partsAt f (s + k) ks
theorem partsAt_snoc {α : Type} {f : Nat → Nat → α} {k : Nat} : ∀ (pre : List Nat) (s : Nat), partsAt f s (pre ++ [k]) = partsAt f s pre ++ [f (s + pre.sum) k]
  | [], s => by simp [partsAt]
  | x :: pre, s => by
    show _ :: partsAt f (s + x) (pre ++ [k]) = _ :: (partsAt f (s + x) pre ++ _)
    rw [partsAt_snoc pre (s + x), List.sum_cons, Nat.add_assoc]
theorem partsAt_len {α : Type} {f : Nat → Nat → α} : ∀ (ks : List Nat) (s : Nat), (partsAt f s ks).length = ks.length
  | [], _ => rfl
  | _ :: ks, s => congrArg Nat.succ (partsAt_len ks _)
theorem partsAt_map {α β : Type} {f : Nat → Nat → α} {g : α → β} : ∀ (ks : List Nat) (s : Nat), (partsAt f s ks).map g = partsAt (fun s k => g (f s k)) s ks
  | [], _ => rfl
  | k :: ks, s => by
    show _ :: (partsAt f (s + k) ks).map g = _ :: _
    rw [partsAt_map ks]
/-- a list, a tuple, a cell with these items -/
def SeqOf (M : Mm) (x : Dt) (xs : List Dt) : Prop := x = .lst xs ∨ x = .tup xs ∨ ∃ p, x = .cel p ∧ M p = some (.lst xs)
theorem join_mk : ∀ ls : List (List Nat), Str.join (mkS []) (ls.map mkS) = mkS ls.flatten
  | [] => rfl
  | [l] => by simp [Str.join]
  | l :: l2 :: r => by
    show mkS l ++ mkS [] ++ Str.join (mkS []) (mkS l2 :: r.map mkS) = _
    have ih := join_mk (l2 :: r)
    rw [List.map_cons] at ih
    rw [ih, mkS_app, mkS_app, List.append_nil]; rfl
theorem txt_join {ls : List (List Nat)} : Txt.join (mkS []) (ls.map mkS) = mkS ls.flatten := by
  unfold Txt.join
  rw [StrLaws.glued_eq_join]
  exact join_mk ls
theorem parts_flat {c : List Nat} : ∀ (ks : List Nat) (s : Nat), (partsAt (fun s k => (c.drop s).take k) s ks).flatten = (c.drop s).take ks.sum
  | [], s => by simp [partsAt]
  | k :: ks, s => by
    show (c.drop s).take k ++ (partsAt _ (s + k) ks).flatten = _
    rw [parts_flat ks (s + k), List.sum_cons, List.take_add, List.drop_drop]
theorem parts_at {c : List Nat} : ∀ (ks : List Nat) (s i : Nat) (k : Nat), ks[i]? = some k → s + ks.sum ≤ c.length → ∃ l, (partsAt (fun s k => (c.drop s).take k) s ks)[i]? = some l ∧ l.length = k
  | [], _, i, k, h, _ => by simp at h
  | k0 :: ks, s, 0, k, h, hl => by
    have : k0 = k := by simpa using h
    subst this
    rw [List.sum_cons] at hl
    exact ⟨(c.drop s).take k0, rfl, by rw [List.length_take, List.length_drop]; omega⟩
  | k0 :: ks, s, i + 1, k, h, hl => by
    rw [List.sum_cons] at hl
    obtain ⟨l, h1, h2⟩ := parts_at (c := c) ks (s + k0) i k (by simpa using h) (by omega)
    exact ⟨l, by simpa [partsAt] using h1, h2⟩
theorem strsD_mk {ls : List (List Nat)} : strsD (ls.map fun l => Dt.str (mkS l)) = some (ls.map mkS) := by
  induction ls with
  | nil => rfl
  | cons l ls ih =>
    show (strsD (ls.map fun l => Dt.str (mkS l))).map (mkS l :: ·) = _
    rw [ih]; rfl
theorem intsD_len {ks : List Nat} : intsD (lenD' ks) = some (ks.map fun (k : Nat) => (k : Int)) := by
  have := intsD_map (ks.map fun (k : Nat) => (k : Int))
  rw [List.map_map] at this
  exact this
theorem sum_cast : ∀ ks : List Nat, (ks.map fun (k : Nat) => (k : Int)).sum = (ks.sum : Nat)
  | [] => rfl
  | k :: ks => by rw [List.map_cons, List.sum_cons, sum_cast ks, List.sum_cons, Int.natCast_add]
theorem rev_ix (n : Nat) : Builtin.Str.strSliceIndices none none (-1) n = (List.range n).reverse := by
  have h0 : (List.range n).reverse = (List.range n).map fun k => n - 1 - k := by
    have := List.reverse_range' (s := 0) (n := n)
    rw [← List.range_eq_range'] at this
    simpa using this
  rw [h0]
  unfold Builtin.Str.strSliceIndices
  simp
  unfold sliceRange
  rw [if_neg (by decide)]
  have hc : (if (n : Int) - 1 > -1 then ((n : Int) - 1 - -1 - -1 - 1) / (-(-1)) else 0) = (n : Int) := by
    split
    · rw [Int.neg_neg, Int.ediv_one]; omega
    · omega
  rw [hc]
  show (List.range ((n : Int).toNat)).map _ = _
  rw [Int.toNat_natCast]
  refine List.map_congr_left fun k hk => ?_
  have := List.mem_range.mp hk
  omega
theorem all_at {l : List Nat} : (List.range l.length).filterMap (l[·]?) = l := by
  have h := StrLaws.picks l l.length 0 (by omega)
  simpa using h
theorem revS_mk {l : List Nat} : revS (mkS l) = mkS l.reverse := by
  unfold revS
  rw [rev_ix, mkS_len, List.filterMap_reverse]
  have : (fun i : Nat => (mkS l).cps[i]?) = fun i : Nat => l[i]? := by
    funext i
    simp [mkS]
  rw [this, all_at]; rfl
end DL
set_option Elab.async false
set_option linter.all false
set_option maxRecDepth 100000
set_option maxHeartbeats 4000000
namespace DL
open PySem PySem.Spec PyProof.Rows L2
theorem tab0 {H : Hp} {P : Addr} {q : Str} (h : H P = some (.tbl #[])) : LamX.TabS H P q := ⟨#[], h, by simp [TriplesOk], fun pos cv hc => by simp [codeAmong] at hc⟩
theorem repl_ints {K : PySem.W.Frag} {Hb : Hp} : ∀ ns : List Int, RepL K Hb (ns.map V.int) (ns.map Dt.int)
  | [] => .nil
  | _ :: ns => .cons .int (repl_ints ns)
/-- the law's promise, from what holds where it is called -/
theorem sp_of_law {K : PySem.W.Frag} {T : List (Addr × Str)} {f : DSp} {H : Hp} {a : Addr} {ns : List Int} (hT : ∀ p ∈ T, H p.1 = some (.tbl #[])) (hS : SqL K H a (ns.map V.int)) (h : f [.ro (ns.map .int)] (fun _ => none) (fun x _ => x = .bl true) X0) :
    spOfT K T f [.ref a] H (fun v _ => v = .bl true) fun _ _ _ => False := by
  have main : ∀ Hb : Hp, Same Hb H → (∀ b ps, Hb b ≠ some (.tbl ps)) → SqL K Hb a (ns.map V.int) → spOfT K T f [.ref a] H (fun v _ => v = .bl true) fun _ _ _ => False := by
    intro Hb h1 h2 h3
    have O : Own K ⟨fun _ => none, T⟩ (fun _ => none) Hb H := by
      refine ⟨h1, ?_, ?_, ?_, ?_, h2, ?_⟩
      · intro b u e; cases e
      · intro b d e; cases e
      · intro b o e; cases e
      · intro p hp; exact tab0 (hT p hp)
      · intro b u e; cases e
    refine ⟨⟨fun _ => none, T⟩, Hb, fun _ => none, [.ro (ns.map .int)], fun x _ => x = .bl true, X0, rfl, O, .cons (.ro h3 (repl_ints ns)) .nil, h, ?_, fun c fs M' z => z.elim⟩
    intro x M' hx v Hb' H' s O r
    subst hx
    cases r
    rfl
  rcases hS with hS | hS
  · refine main (fun b => if b = a then H a else none) ?_ ?_ (.inl ?_)
    · intro b u e
      have e : (if b = a then H a else none) = some u := e
      split at e
      · rename_i hb
        rw [hb]; exact e
      · cases e
    · intro b ps e
      have e : (if b = a then H a else none) = some (.tbl ps) := e
      split at e
      · rcases hS with hS | ⟨o, hS⟩
        · rw [hS] at e; cases e
        · rw [hS] at e; cases e
      · cases e
    · rcases hS with hS | ⟨o, hS⟩
      · exact .inl ((if_pos rfl).trans hS)
      · exact .inr ⟨o, (if_pos rfl).trans hS⟩
  · refine main (fun _ => none) ?_ ?_ (.inr hS)
    · intro b u e; cases e
    · intro b ps e; cases e
end DL
set_option Elab.async false
set_option linter.all false
set_option maxRecDepth 100000
set_option maxHeartbeats 4000000
namespace LK
open PySem PySem.Spec PyProof.Rows L2 DL
section
variable {P : Program} {w : World} {K : PySem.W.Frag} {mg : Str → Option Value} {base : Heap}
theorem s_BadCount_init : FnScope ["self", "found", "low", "high"] ["self", "found", "low", "high"] (defScope (EL.mth (top 4) 0)) := ⟨rfl, rfl, rfl, by decide +kernel, rfl, by decide +kernel, by decide +kernel⟩
theorem x_BadCount (c : C K mg) : XMk P w K mg base 1 "BadCount" ["found", "low", "high"] := by
  obtain ⟨fd, F⟩ := c.def_ 0
  exact ⟨c.ox_BadCount, _, fd, ["self", "found", "low", "high"], c.oi_BadCount.1, c.oi_BadCount.2, init_ok3 F s_BadCount_init rfl c.ox_BadCount c.na_BadCount_found c.na_BadCount_low c.na_BadCount_high, F.bindsN fun _ _ _ _ _ _ us hl => match us, hl with | [_, _, _, _], _ => rfl⟩
theorem s_BadSize_init : FnScope ["self", "found", "due"] ["self", "found", "due"] (defScope (EL.mth (top 5) 0)) := ⟨rfl, rfl, rfl, by decide +kernel, rfl, by decide +kernel, by decide +kernel⟩
theorem x_BadSize (c : C K mg) : XMk P w K mg base 1 "BadSize" ["found", "due"] := by
  obtain ⟨fd, F⟩ := c.def_ 1
  exact ⟨c.ox_BadSize, _, fd, ["self", "found", "due"], c.oi_BadSize.1, c.oi_BadSize.2, init_ok2 F s_BadSize_init rfl c.ox_BadSize c.na_BadSize_found c.na_BadSize_due, F.bindsN fun _ _ _ _ _ _ us hl => match us, hl with | [_, _, _], _ => rfl⟩
theorem s_BadShare_init : FnScope ["self", "at"] ["self", "at"] (defScope (EL.mth (top 9) 0)) := ⟨rfl, rfl, rfl, by decide +kernel, rfl, by decide +kernel, by decide +kernel⟩
theorem x_BadShare (c : C K mg) : XMk P w K mg base 1 "BadShare" ["at"] := by
  obtain ⟨fd, F⟩ := c.def_ 5
  exact ⟨c.ox_BadShare, _, fd, ["self", "at"], c.oi_BadShare.1, c.oi_BadShare.2, init_ok1 F s_BadShare_init rfl c.ox_BadShare c.na_BadShare_at, F.bindsN fun _ _ _ _ _ _ us hl => match us, hl with | [_, _], _ => rfl⟩
theorem s_BadRow_init : FnScope ["self", "found"] ["self", "found"] (defScope (EL.mth (top 8) 0)) := ⟨rfl, rfl, rfl, by decide +kernel, rfl, by decide +kernel, by decide +kernel⟩
theorem x_BadRow (c : C K mg) : XMk P w K mg base 1 "BadRow" ["found"] := by
  obtain ⟨fd, F⟩ := c.def_ 4
  exact ⟨c.ox_BadRow, _, fd, ["self", "found"], c.oi_BadRow.1, c.oi_BadRow.2, init_ok1 F s_BadRow_init rfl c.ox_BadRow c.na_BadRow_found, F.bindsN fun _ _ _ _ _ _ us hl => match us, hl with | [_, _], _ => rfl⟩
theorem s_check_count_rows : FnScope ["found", "low", "high"] ["found", "low", "high"] (defScope (top 34)) := ⟨rfl, rfl, rfl, by decide +kernel, rfl, by decide +kernel, by decide +kernel⟩
theorem w_check_count_rows (c : C K mg) : Walk P w K mg base ["found", "low", "high"] "check_count" (defScope (top 34)) (He.ga K "check_count_rows") 2 (defBody (top 34)) b_check_count_rows := fun cdv A outer s H E G XX hr rs =>
  have nd := s_check_count_rows.nd
  (dss_one (ds_if (dt_w (dw_or (dt_val (de_isi (de_var 0) rfl c.fr_isinstance rfl c.fr_bool)) (dw_or (dt_cmp op_lt (lr_cmpI _) (de_var 0) (de_var 1)) (dw_or1 (dt_cmp op_gt (lr_cmpI _) (de_var 0) (de_var 2)))))) (dss_one (ds_raiseF rfl rs (x_BadCount c) (hr.mono (Nat.le_of_ble_eq_true rfl)) rfl c.g_BadCount (da_cons (de_var 0) (da_cons (de_var 1) (da_cons (de_var 2) da_nil))))) dss_nil))
theorem d_check_count_rows (c : C K mg) : DFn P w K mg base 3 (He.ga K "check_count_rows") [] f_check_count_rows := by
  obtain ⟨fd, F⟩ := c.def_ 20
  exact ⟨F.kp, fd, ["found", "low", "high"], [], [], def_ok F s_check_count_rows (w_check_count_rows c), F.bindsN fun _ _ _ _ _ _ us hl => match us, hl with | [_, _, _], _ => rfl, .nil, fun _ => .nil⟩
theorem s_most_rounds : FnScope ["width"] ["width"] (defScope (top 39)) := ⟨rfl, rfl, rfl, by decide +kernel, rfl, by decide +kernel, by decide +kernel⟩
theorem w_most_rounds (c : C K mg) : Walk P w K mg base ["width"] "most_rounds" (defScope (top 39)) (He.ga K "most_rounds") 3 (defBody (top 39)) b_most_rounds := fun cdv A outer s H E G XX hr rs =>
  have nd := s_most_rounds.nd
  (dss_cons (ds_expr (de_call ((d_check_count_rows c).mono (Nat.le_of_ble_eq_true rfl)) hr rfl c.g_check_count_rows rs.exw (da_cons (de_var 0) (da_cons de_int (da_cons (de_gInt rfl c.v_WIDEST) da_nil)))))
    (dss_one (ds_ret (de_ix (de_gRef rfl c.g_MOST_ROUNDS c.r_MOST_ROUNDS) (de_op op_sub lrx_sub (de_var 0) de_int)))))
theorem d_most_rounds (c : C K mg) : DFn P w K mg base 4 (He.ga K "most_rounds") [] f_most_rounds := by
  obtain ⟨fd, F⟩ := c.def_ 24
  exact ⟨F.kp, fd, ["width"], [], [], def_ok F s_most_rounds (w_most_rounds c), F.bindsN fun _ _ _ _ _ _ us hl => match us, hl with | [_], _ => rfl, .nil, fun _ => .nil⟩
theorem s_check_shape : FnScope ["width", "rounds"] ["width", "rounds"] (defScope (top 36)) := ⟨rfl, rfl, rfl, by decide +kernel, rfl, by decide +kernel, by decide +kernel⟩
theorem w_check_shape (c : C K mg) : Walk P w K mg base ["width", "rounds"] "check_shape" (defScope (top 36)) (He.ga K "check_shape") 4 (defBody (top 36)) b_check_shape := fun cdv A outer s H E G XX hr rs =>
  have nd := s_check_shape.nd
  (dss_one (ds_expr (de_call ((d_check_count_rows c).mono (Nat.le_of_ble_eq_true rfl)) hr rfl c.g_check_count_rows rs.exw (da_cons (de_var 1) (da_cons de_int (da_cons (de_call ((d_most_rounds c).mono (Nat.le_of_ble_eq_true rfl)) hr rfl c.g_most_rounds rs.exw (da_cons (de_var 0) da_nil)) da_nil))))))
theorem d_check_shape (c : C K mg) : DFn P w K mg base 5 (He.ga K "check_shape") [] f_check_shape := by
  obtain ⟨fd, F⟩ := c.def_ 21
  exact ⟨F.kp, fd, ["width", "rounds"], [], [], def_ok F s_check_shape (w_check_shape c), F.bindsN fun _ _ _ _ _ _ us hl => match us, hl with | [_, _], _ => rfl, .nil, fun _ => .nil⟩
theorem s_letters : FnScope ["width"] ["width"] (defScope (top 40)) := ⟨rfl, rfl, rfl, by decide +kernel, rfl, by decide +kernel, by decide +kernel⟩
theorem w_letters (c : C K mg) : Walk P w K mg base ["width"] "letters" (defScope (top 40)) (He.ga K "letters") 3 (defBody (top 40)) b_letters := fun cdv A outer s H E G XX hr rs =>
  have nd := s_letters.nd
  (dss_cons (ds_expr (de_call ((d_check_count_rows c).mono (Nat.le_of_ble_eq_true rfl)) hr rfl c.g_check_count_rows rs.exw (da_cons (de_var 0) (da_cons de_int (da_cons (de_gInt rfl c.v_WIDEST) da_nil)))))
    (dss_one (ds_ret (de_slice false (de_gStr rfl c.v_OUTCOMES) do_none (do_some (de_var 0))))))
theorem d_letters (c : C K mg) : DFn P w K mg base 4 (He.ga K "letters") [] f_letters := by
  obtain ⟨fd, F⟩ := c.def_ 25
  exact ⟨F.kp, fd, ["width"], [], [], def_ok F s_letters (w_letters c), F.bindsN fun _ _ _ _ _ _ us hl => match us, hl with | [_], _ => rfl, .nil, fun _ => .nil⟩
theorem s_next_texts : FnScope ["texts", "width", "signs", "text", "sign"] ["texts", "width"] (defScope (top 38)) := ⟨rfl, rfl, rfl, by decide +kernel, rfl, by decide +kernel, by decide +kernel⟩
theorem w_next_texts (c : C K mg) : Walk P w K mg base ["texts", "width", "signs", "text", "sign"] "next_texts" (defScope (top 38)) (He.ga K "next_texts") 4 (defBody (top 38)) b_next_texts := fun cdv A outer s H E G XX hr rs =>
  have nd := s_next_texts.nd
  (dss_cons (ds_set (i := 2) nd (de_call ((d_letters c).mono (Nat.le_of_ble_eq_true rfl)) hr rfl c.g_letters rs.exw (da_cons (de_var 1) da_nil)))
    (dss_one (ds_ret (de_lc2 false [("text", 3), ("sign", 4)] [4] rfl nd (di_seq (de_var 0)) (dgw_name (i := 3) nd) dts_nil (fun s H C cl fp => (di_seq (de_var 2))) (dgw_name (i := 4) nd) dts_nil (fun s H C cl fp => (de_op opx_add (lrx_add false) (de_var 3) (de_var 4))) (ok := rfl)))))
theorem d_next_texts (c : C K mg) : DFn P w K mg base 5 (He.ga K "next_texts") [] f_next_texts := by
  obtain ⟨fd, F⟩ := c.def_ 23
  exact ⟨F.kp, fd, ["texts", "width"], [], [], def_ok F s_next_texts (w_next_texts c), F.bindsN fun _ _ _ _ _ _ us hl => match us, hl with | [_, _], _ => rfl, .nil, fun _ => .nil⟩
theorem s_beginnings_of : FnScope ["rounds", "width", "found", "texts", "spare"] ["rounds", "width"] (defScope (top 42)) := ⟨rfl, rfl, rfl, by decide +kernel, rfl, by decide +kernel, by decide +kernel⟩
theorem w_beginnings_of (c : C K mg) : Walk P w K mg base ["rounds", "width", "found", "texts", "spare"] "beginnings_of" (defScope (top 42)) (He.ga K "beginnings_of") 5 (defBody (top 42)) b_beginnings_of := fun cdv A outer s H E G XX hr rs =>
  have nd := s_beginnings_of.nd
  (dss_cons (ds_expr (de_call ((d_check_shape c).mono (Nat.le_of_ble_eq_true rfl)) hr rfl c.g_check_shape rs.exw (da_cons (de_var 1) (da_cons (de_var 0) da_nil))))
    (dss_cons (ds_set (i := 2) nd (de_lst true da_nil))
    (dss_cons (ds_set (i := 3) nd (de_lst false (da_cons de_str da_nil)))
    (dss_cons (ds_for (passes_of rfl) rfl (di_range1 rfl c.fr_range (da_cons (de_var 0) da_nil)) (dg_name (i := 4) nd) (dss_cons (ds_expr (de_bm PySem.F.plainAttrs_list PySem.F.slot_list_extend (by rfl) mt_extend lm_extend (de_var 2) (da_cons (de_var 3) da_nil)))
    (dss_one (ds_set (i := 3) nd (de_call ((d_next_texts c).mono (Nat.le_of_ble_eq_true rfl)) hr rfl c.g_next_texts rs.exw (da_cons (de_var 3) (da_cons (de_var 1) da_nil)))))))
    (dss_one (ds_ret (de_frz (de_var 2))))))))
theorem k_beginnings_of (c : C K mg) : DFk P w K mg base 6 (He.ga K "beginnings_of") 1 ["width"] f_beginnings_of := by
  obtain ⟨fd, F⟩ := c.def_ 27
  exact ⟨F.kp, fd, ["rounds", "width"], def_ok F s_beginnings_of (w_beginnings_of c), kbn_of F (fun _ _ _ _ _ _ us ws h1 h2 => match us, ws, h1, h2 with | [_], [_], _, _ => rfl)⟩
theorem s_check_size : FnScope ["found", "due"] ["found", "due"] (defScope (top 45)) := ⟨rfl, rfl, rfl, by decide +kernel, rfl, by decide +kernel, by decide +kernel⟩
theorem w_check_size (c : C K mg) : Walk P w K mg base ["found", "due"] "check_size" (defScope (top 45)) (He.ga K "check_size") 2 (defBody (top 45)) b_check_size := fun cdv A outer s H E G XX hr rs =>
  have nd := s_check_size.nd
  (dss_one (ds_if (dt_cmp (opx_ne hr.units) lrx_ne (de_var 0) (de_var 1)) (dss_one (ds_raiseF rfl rs (x_BadSize c) (hr.mono (Nat.le_of_ble_eq_true rfl)) rfl c.g_BadSize (da_cons (de_var 0) (da_cons (de_var 1) da_nil)))) dss_nil))
theorem d_check_size (c : C K mg) : DFn P w K mg base 3 (He.ga K "check_size") [] f_check_size := by
  obtain ⟨fd, F⟩ := c.def_ 28
  exact ⟨F.kp, fd, ["found", "due"], [], [], def_ok F s_check_size (w_check_size c), F.bindsN fun _ _ _ _ _ _ us hl => match us, hl with | [_, _], _ => rfl, .nil, fun _ => .nil⟩
theorem s_is_integer_value : FnScope ["value"] ["value"] (defScope (top 22)) := ⟨rfl, rfl, rfl, by decide +kernel, rfl, by decide +kernel, by decide +kernel⟩
theorem w_is_integer_value (c : C K mg) : Walk P w K mg base ["value"] "is_integer_value" (defScope (top 22)) (He.ga K "is_integer_value") 0 (defBody (top 22)) b_is_integer_value := fun cdv A outer s H E G XX hr rs =>
  have nd := s_is_integer_value.nd
  (dss_one (ds_ret (de_and (de_isi (de_var 0) rfl c.fr_isinstance rfl c.fr_int) (de_and1 (de_not (de_isi (de_var 0) rfl c.fr_isinstance rfl c.fr_bool))))))
theorem d_is_integer_value (c : C K mg) : DFn P w K mg base 1 (He.ga K "is_integer_value") [] f_is_integer_value := by
  obtain ⟨fd, F⟩ := c.def_ 12
  exact ⟨F.kp, fd, ["value"], [], [], def_ok F s_is_integer_value (w_is_integer_value c), F.bindsN fun _ _ _ _ _ _ us hl => match us, hl with | [_], _ => rfl, .nil, fun _ => .nil⟩
theorem s_parts_of : FnScope ["value", "top", "bottom"] ["value"] (defScope (top 23)) := ⟨rfl, rfl, rfl, by decide +kernel, rfl, by decide +kernel, by decide +kernel⟩
theorem w_parts_of (c : C K mg) : Walk P w K mg base ["value", "top", "bottom"] "parts_of" (defScope (top 23)) (He.ga K "parts_of") 1 (defBody (top 23)) b_parts_of := fun cdv A outer s H E G XX hr rs =>
  have nd := s_parts_of.nd
  (dss_cons (ds_if (dt_val (de_call ((d_is_integer_value c).mono (Nat.le_of_ble_eq_true rfl)) hr rfl c.g_is_integer_value rs.exw (da_cons (de_var 0) da_nil))) (dss_one (ds_ret (de_tup (da_cons (de_var 0) (da_cons de_int da_nil))))) dss_nil)
    (dss_cons (ds_if (dt_w (dw_or (dt_not (dt_val (de_isi (de_var 0) rfl c.fr_isinstance rfl c.fr_tuple))) (dw_or1 (dt_cmp (opx_ne hr.units) lrx_ne (de_callB call_len lc_len rfl c.fr_len (da_cons (de_var 0) da_nil)) de_int)))) (dss_one (ds_raiseT rfl rs c.x_BadNumber rfl c.g_BadNumber)) dss_nil)
    (dss_cons (ds_asg (de_var 0) (dg_tup rfl (dgs_cons (dg_name (i := 1) nd) (dgs_cons (dg_name (i := 2) nd) dgs_nil))))
    (dss_cons (ds_if (dt_w (dw_or (dt_not (dt_val (de_call ((d_is_integer_value c).mono (Nat.le_of_ble_eq_true rfl)) hr rfl c.g_is_integer_value rs.exw (da_cons (de_var 1) da_nil)))) (dw_or (dt_not (dt_val (de_call ((d_is_integer_value c).mono (Nat.le_of_ble_eq_true rfl)) hr rfl c.g_is_integer_value rs.exw (da_cons (de_var 2) da_nil)))) (dw_or1 (dt_cmp op_lt (lr_cmpI _) (de_var 2) de_int))))) (dss_one (ds_raiseT rfl rs c.x_BadNumber rfl c.g_BadNumber)) dss_nil)
    (dss_one (ds_ret (de_tup (da_cons (de_var 1) (da_cons (de_var 2) da_nil)))))))))
theorem d_parts_of (c : C K mg) : DFn P w K mg base 2 (He.ga K "parts_of") [] f_parts_of := by
  obtain ⟨fd, F⟩ := c.def_ 13
  exact ⟨F.kp, fd, ["value"], [], [], def_ok F s_parts_of (w_parts_of c), F.bindsN fun _ _ _ _ _ _ us hl => match us, hl with | [_], _ => rfl, .nil, fun _ => .nil⟩
theorem s_common_divisor : FnScope ["top", "bottom"] ["top", "bottom"] (defScope (top 24)) := ⟨rfl, rfl, rfl, by decide +kernel, rfl, by decide +kernel, by decide +kernel⟩
theorem w_common_divisor (c : C K mg) : Walk P w K mg base ["top", "bottom"] "common_divisor" (defScope (top 24)) (He.ga K "common_divisor") 0 (defBody (top 24)) b_common_divisor := fun cdv A outer s H E G XX hr rs =>
  have nd := s_common_divisor.nd
  (dss_cons (ds_while (passes_of rfl) (dt_cmp (opx_ne hr.units) lrx_ne (de_var 1) de_int) (dss_one (ds_par (i := 0) (j := 1) rfl nd (da_cons (de_var 1) (da_cons (de_op op_mod lrx_mod (de_var 0) (de_var 1)) da_nil)) (ps := fun h => ps_par rfl nd rfl rfl (by decide) rfl rfl h rfl))))
    (dss_one (ds_ret (de_var 0))))
theorem d_common_divisor (c : C K mg) : DFn P w K mg base 1 (He.ga K "common_divisor") [] f_common_divisor := by
  obtain ⟨fd, F⟩ := c.def_ 14
  exact ⟨F.kp, fd, ["top", "bottom"], [], [], def_ok F s_common_divisor (w_common_divisor c), F.bindsN fun _ _ _ _ _ _ us hl => match us, hl with | [_, _], _ => rfl, .nil, fun _ => .nil⟩
theorem s_fraction : FnScope ["value", "common", "top", "bottom"] ["value"] (defScope (top 25)) := ⟨rfl, rfl, rfl, by decide +kernel, rfl, by decide +kernel, by decide +kernel⟩
theorem w_fraction (c : C K mg) : Walk P w K mg base ["value", "common", "top", "bottom"] "fraction" (defScope (top 25)) (He.ga K "fraction") 2 (defBody (top 25)) b_fraction := fun cdv A outer s H E G XX hr rs =>
  have nd := s_fraction.nd
  (dss_cons (ds_asg (de_call ((d_parts_of c).mono (Nat.le_of_ble_eq_true rfl)) hr rfl c.g_parts_of rs.exw (da_cons (de_var 0) da_nil)) (dg_tup rfl (dgs_cons (dg_name (i := 2) nd) (dgs_cons (dg_name (i := 3) nd) dgs_nil))))
    (dss_cons (ds_set (i := 1) nd (de_call ((d_common_divisor c).mono (Nat.le_of_ble_eq_true rfl)) hr rfl c.g_common_divisor rs.exw (da_cons (de_var 2) (da_cons (de_var 3) da_nil))))
    (dss_one (ds_ret (de_tup (da_cons (de_op op_fdivW lrx_div (de_var 2) (de_var 1)) (da_cons (de_op op_fdivW lrx_div (de_var 3) (de_var 1)) da_nil)))))))
theorem d_fraction (c : C K mg) : DFn P w K mg base 3 (He.ga K "fraction") [] f_fraction := by
  obtain ⟨fd, F⟩ := c.def_ 15
  exact ⟨F.kp, fd, ["value"], [], [], def_ok F s_fraction (w_fraction c), F.bindsN fun _ _ _ _ _ _ us hl => match us, hl with | [_], _ => rfl, .nil, fun _ => .nil⟩
theorem s_share_parts : FnScope ["width", "share", "part"] ["width", "share"] (defScope (top 47)) := ⟨rfl, rfl, rfl, by decide +kernel, rfl, by decide +kernel, by decide +kernel⟩
theorem w_share_parts (c : C K mg) : Walk P w K mg base ["width", "share", "part"] "share_parts" (defScope (top 47)) (He.ga K "share_parts") 3 (defBody (top 47)) b_share_parts := fun cdv A outer s H E G XX hr rs =>
  have nd := s_share_parts.nd
  (dss_cons (ds_expr (de_call ((d_check_size c).mono (Nat.le_of_ble_eq_true rfl)) hr rfl c.g_check_size rs.exw (da_cons (de_callB call_len lc_len rfl c.fr_len (da_cons (de_var 1) da_nil)) (da_cons (de_var 0) da_nil))))
    (dss_one (ds_ret (de_callTy call_tuple_of lc_tuple rfl c.fr_tuple (da_cons (de_lc false [("part", 2)] rfl nd (di_seq (de_var 1)) (dgw_name (i := 2) nd) dts_nil (fun s H C cl fp => (de_call ((d_fraction c).mono (Nat.le_of_ble_eq_true rfl)) hr rfl c.g_fraction exw0 (da_cons (de_var 2) da_nil))) (ok := rfl)) da_nil)))))
theorem d_share_parts (c : C K mg) : DFn P w K mg base 4 (He.ga K "share_parts") [] f_share_parts := by
  obtain ⟨fd, F⟩ := c.def_ 30
  exact ⟨F.kp, fd, ["width", "share"], [], [], def_ok F s_share_parts (w_share_parts c), F.bindsN fun _ _ _ _ _ _ us hl => match us, hl with | [_, _], _ => rfl, .nil, fun _ => .nil⟩
theorem s_sum_of_two : FnScope ["left", "right", "common", "reduced", "raw", "again", "top", "bottom", "other_top", "other_bottom"] ["left", "right"] (defScope (top 26)) := ⟨rfl, rfl, rfl, by decide +kernel, rfl, by decide +kernel, by decide +kernel⟩
theorem w_sum_of_two (c : C K mg) : Walk P w K mg base ["left", "right", "common", "reduced", "raw", "again", "top", "bottom", "other_top", "other_bottom"] "sum_of_two" (defScope (top 26)) (He.ga K "sum_of_two") 1 (defBody (top 26)) b_sum_of_two := fun cdv A outer s H E G XX hr rs =>
  have nd := s_sum_of_two.nd
  (dss_cons (ds_asg (de_var 0) (dg_tup rfl (dgs_cons (dg_name (i := 6) nd) (dgs_cons (dg_name (i := 7) nd) dgs_nil))))
    (dss_cons (ds_asg (de_var 1) (dg_tup rfl (dgs_cons (dg_name (i := 8) nd) (dgs_cons (dg_name (i := 9) nd) dgs_nil))))
    (dss_cons (ds_set (i := 2) nd (de_call ((d_common_divisor c).mono (Nat.le_of_ble_eq_true rfl)) hr rfl c.g_common_divisor rs.exw (da_cons (de_var 7) (da_cons (de_var 9) da_nil))))
    (dss_cons (ds_if (dt_cmp (opx_eq hr.units) lrx_eq (de_var 2) de_int) (dss_one (ds_ret (de_tup (da_cons (de_op opx_add (lrx_add false) (de_op opx_mul (lrx_mul false) (de_var 6) (de_var 9)) (de_op opx_mul (lrx_mul false) (de_var 8) (de_var 7))) (da_cons (de_op opx_mul (lrx_mul false) (de_var 7) (de_var 9)) da_nil))))) dss_nil)
    (dss_cons (ds_set (i := 3) nd (de_op op_fdivW lrx_div (de_var 7) (de_var 2)))
    (dss_cons (ds_set (i := 4) nd (de_op opx_add (lrx_add false) (de_op opx_mul (lrx_mul false) (de_var 6) (de_op op_fdivW lrx_div (de_var 9) (de_var 2))) (de_op opx_mul (lrx_mul false) (de_var 8) (de_var 3))))
    (dss_cons (ds_set (i := 5) nd (de_call ((d_common_divisor c).mono (Nat.le_of_ble_eq_true rfl)) hr rfl c.g_common_divisor rs.exw (da_cons (de_var 4) (da_cons (de_var 2) da_nil))))
    (dss_one (ds_ret (de_tup (da_cons (de_op op_fdivW lrx_div (de_var 4) (de_var 5)) (da_cons (de_op opx_mul (lrx_mul false) (de_var 3) (de_op op_fdivW lrx_div (de_var 9) (de_var 5))) da_nil))))))))))))
theorem d_sum_of_two (c : C K mg) : DFn P w K mg base 2 (He.ga K "sum_of_two") [] f_sum_of_two := by
  obtain ⟨fd, F⟩ := c.def_ 16
  exact ⟨F.kp, fd, ["left", "right"], [], [], def_ok F s_sum_of_two (w_sum_of_two c), F.bindsN fun _ _ _ _ _ _ us hl => match us, hl with | [_, _], _ => rfl, .nil, fun _ => .nil⟩
theorem s_total : FnScope ["values", "running", "value"] ["values"] (defScope (top 29)) := ⟨rfl, rfl, rfl, by decide +kernel, rfl, by decide +kernel, by decide +kernel⟩
theorem w_total (c : C K mg) : Walk P w K mg base ["values", "running", "value"] "total" (defScope (top 29)) (He.ga K "total") 3 (defBody (top 29)) b_total := fun cdv A outer s H E G XX hr rs =>
  have nd := s_total.nd
  (dss_cons (ds_set (i := 1) nd (de_tup (da_cons de_int (da_cons de_int da_nil))))
    (dss_cons (ds_for (passes_of rfl) rfl (di_seq (de_var 0)) (dg_name (i := 2) nd) (dss_one (ds_set (i := 1) nd (de_call ((d_sum_of_two c).mono (Nat.le_of_ble_eq_true rfl)) hr rfl c.g_sum_of_two rs.exw (da_cons (de_var 1) (da_cons (de_call ((d_fraction c).mono (Nat.le_of_ble_eq_true rfl)) hr rfl c.g_fraction rs.exw (da_cons (de_var 2) da_nil)) da_nil))))))
    (dss_one (ds_ret (de_var 1)))))
theorem d_total (c : C K mg) : DFn P w K mg base 4 (He.ga K "total") [] f_total := by
  obtain ⟨fd, F⟩ := c.def_ 19
  exact ⟨F.kp, fd, ["values"], [], [], def_ok F s_total (w_total c), F.bindsN fun _ _ _ _ _ _ us hl => match us, hl with | [_], _ => rfl, .nil, fun _ => .nil⟩
theorem s_is_sharing : FnScope ["parts", "part"] ["parts"] (defScope (top 48)) := ⟨rfl, rfl, rfl, by decide +kernel, rfl, by decide +kernel, by decide +kernel⟩
theorem w_is_sharing (c : C K mg) : Walk P w K mg base ["parts", "part"] "is_sharing" (defScope (top 48)) (He.ga K "is_sharing") 4 (defBody (top 48)) b_is_sharing := fun cdv A outer s H E G XX hr rs =>
  have nd := s_is_sharing.nd
  (dss_cons (ds_for (passes_of rfl) rfl (di_seq (de_var 0)) (dg_name (i := 1) nd) (dss_one (ds_if (dt_cmp op_lt (lr_cmpI _) (de_ix (de_var 1) de_int) de_int) (dss_one (ds_ret de_bl)) dss_nil)))
    (dss_one (ds_ret (de_cmp (opx_eq hr.units) lrx_eq (de_call ((d_total c).mono (Nat.le_of_ble_eq_true rfl)) hr rfl c.g_total rs.exw (da_cons (de_var 0) da_nil)) (de_gRef rfl c.g_WHOLE_SHARE c.r_WHOLE_SHARE)))))
theorem d_is_sharing (c : C K mg) : DFn P w K mg base 5 (He.ga K "is_sharing") [] f_is_sharing := by
  obtain ⟨fd, F⟩ := c.def_ 31
  exact ⟨F.kp, fd, ["parts"], [], [], def_ok F s_is_sharing (w_is_sharing c), F.bindsN fun _ _ _ _ _ _ us hl => match us, hl with | [_], _ => rfl, .nil, fun _ => .nil⟩
theorem s_sharing_at : FnScope ["width", "share", "at", "parts"] ["width", "share", "at"] (defScope (top 49)) := ⟨rfl, rfl, rfl, by decide +kernel, rfl, by decide +kernel, by decide +kernel⟩
theorem w_sharing_at (c : C K mg) : Walk P w K mg base ["width", "share", "at", "parts"] "sharing_at" (defScope (top 49)) (He.ga K "sharing_at") 5 (defBody (top 49)) b_sharing_at := fun cdv A outer s H E G XX hr rs =>
  have nd := s_sharing_at.nd
  (dss_cons (ds_set (i := 3) nd (de_call ((d_share_parts c).mono (Nat.le_of_ble_eq_true rfl)) hr rfl c.g_share_parts rs.exw (da_cons (de_var 0) (da_cons (de_var 1) da_nil))))
    (dss_cons (ds_if (dt_not (dt_val (de_call ((d_is_sharing c).mono (Nat.le_of_ble_eq_true rfl)) hr rfl c.g_is_sharing rs.exw (da_cons (de_var 3) da_nil)))) (dss_one (ds_raiseF rfl rs (x_BadShare c) (hr.mono (Nat.le_of_ble_eq_true rfl)) rfl c.g_BadShare (da_cons (de_var 2) da_nil))) dss_nil)
    (dss_one (ds_ret (de_var 3)))))
theorem d_sharing_at (c : C K mg) : DFn P w K mg base 6 (He.ga K "sharing_at") [] f_sharing_at := by
  obtain ⟨fd, F⟩ := c.def_ 32
  exact ⟨F.kp, fd, ["width", "share", "at"], [], [], def_ok F s_sharing_at (w_sharing_at c), F.bindsN fun _ _ _ _ _ _ us hl => match us, hl with | [_, _, _], _ => rfl, .nil, fun _ => .nil⟩
theorem s_Plan___init__ : FnScope ["self", "width", "rounds", "shares", "order", "parts", "share", "at"] ["self", "width", "rounds", "shares"] (defScope (EL.mth (top 50) 0)) := ⟨rfl, rfl, rfl, by decide +kernel, rfl, by decide +kernel, by decide +kernel⟩
theorem w_Plan___init__ (c : C K mg) : Walk P w K mg base ["self", "width", "rounds", "shares", "order", "parts", "share", "at"] "Plan.__init__" (defScope (EL.mth (top 50) 0)) (He.ma K (He.ga K "Plan") "__init__") 6 (defBody (EL.mth (top 50) 0)) b_Plan___init__ := fun cdv A outer s H E G XX hr rs =>
  have nd := s_Plan___init__.nd
  (dss_cons (ds_set (i := 4) nd (de_callKw ((k_beginnings_of c).mono (Nat.le_of_ble_eq_true rfl)) hr rfl c.g_beginnings_of rs.exw (da_cons (de_var 2) da_nil) (dk_cons (de_var 1) dk_nil)))
    (dss_cons (ds_expr (de_call ((d_check_size c).mono (Nat.le_of_ble_eq_true rfl)) hr rfl c.g_check_size rs.exw (da_cons (de_callB call_len lc_len rfl c.fr_len (da_cons (de_var 3) da_nil)) (da_cons (de_callB call_len lc_len rfl c.fr_len (da_cons (de_var 4) da_nil)) da_nil))))
    (dss_cons (ds_setLc (i := 5) (y := "parts") false [("share", 6), ("at", 7)] rfl nd (di_zip rfl c.fr_zip (da_cons (de_var 3) (da_cons (de_var 4) da_nil))) (dgw_tup rfl (dgws_cons (dgw_name (i := 6) nd) (dgws_cons (dgw_name (i := 7) nd) dgws_nil))) dts_nil (fun s H C cl fp => (de_call ((d_sharing_at c).mono (Nat.le_of_ble_eq_true rfl)) hr rfl c.g_sharing_at exw0 (da_cons (de_var 1) (da_cons (de_var 6) (da_cons (de_var 7) da_nil))))) (ok := rfl))
    (dss_cons (ds_setF c.cl_Plan c.na_Plan_held_width (de_var 0) (de_var 1))
    (dss_cons (ds_setF c.cl_Plan c.na_Plan_held_rounds (de_var 0) (de_var 2))
    (dss_cons (ds_setF c.cl_Plan c.na_Plan_held_shares (de_var 0) (de_callTy call_tuple_of lc_tuple rfl c.fr_tuple (da_cons (de_var 5) da_nil)))
    (dss_one (ds_setF c.cl_Plan c.na_Plan_held_places (de_var 0) (de_dc [("share", 6), ("at", 7)] rfl nd (di_zip rfl c.fr_zip (da_cons (de_var 4) (da_cons (de_var 5) da_nil))) (dgw_tup rfl (dgws_cons (dgw_name (i := 7) nd) (dgws_cons (dgw_name (i := 6) nd) dgws_nil))) (fun s H C cl fp => (de_var 7)) (fun s H C cl fp => (de_var 6)) (ok := rfl))))))))))
theorem d_Plan___init__ (c : C K mg) : DFn P w K mg base 7 (He.ma K (He.ga K "Plan") "__init__") [] f_Plan___init__ := by
  obtain ⟨fd, F⟩ := c.def_ 33
  exact ⟨F.kp, fd, ["self", "width", "rounds", "shares"], [], [], def_ok F s_Plan___init__ (w_Plan___init__ c), F.bindsN fun _ _ _ _ _ _ us hl => match us, hl with | [_, _, _, _], _ => rfl, .nil, fun _ => .nil⟩
theorem s_law_store : FnScope ["_law_script", "_law_cell"] ["_law_script"] (defScope (top 65)) := ⟨rfl, rfl, rfl, by decide +kernel, rfl, by decide +kernel, by decide +kernel⟩
theorem w_law_store (c : C K mg) : Walk P w K mg base ["_law_script", "_law_cell"] "_law_store" (defScope (top 65)) (He.ga K "_law_store") 0 (defBody (top 65)) b_law_store := fun cdv A outer s H E G XX hr rs =>
  have nd := s_law_store.nd
  (dss_one (ds_ret (de_op opx_add (lrx_add true) (de_lst false (da_cons de_int (da_cons de_int (da_cons (de_op opx_add (lrx_add false) de_int (de_callB call_len lc_len rfl c.fr_len (da_cons (de_var 0) da_nil))) (da_cons de_int (da_cons de_int da_nil)))))) (de_lc false [("_law_cell", 1)] rfl nd (di_seq (de_var 0)) (dgw_name (i := 1) nd) dts_nil (fun s H C cl fp => (de_callTy callx_int lc_int rfl c.fr_int (da_cons (de_var 1) da_nil))) (ok := rfl)))))
theorem d_law_store (c : C K mg) : DFn P w K mg base 1 (He.ga K "_law_store") [] f_law_store := by
  obtain ⟨fd, F⟩ := c.def_ 51
  exact ⟨F.kp, fd, ["_law_script"], [], [], def_ok F s_law_store (w_law_store c), F.bindsN fun _ _ _ _ _ _ us hl => match us, hl with | [_], _ => rfl, .nil, fun _ => .nil⟩
theorem s_law_mixed : FnScope ["_law_store_here", "_law_prime", "_law_found"] ["_law_store_here"] (defScope (top 66)) := ⟨rfl, rfl, rfl, by decide +kernel, rfl, by decide +kernel, by decide +kernel⟩
theorem w_law_mixed (c : C K mg) : Walk P w K mg base ["_law_store_here", "_law_prime", "_law_found"] "_law_mixed" (defScope (top 66)) (He.ga K "_law_mixed") 0 (defBody (top 66)) b_law_mixed := fun cdv A outer s H E G XX hr rs =>
  have nd := s_law_mixed.nd
  (dss_cons (ds_set (i := 1) nd de_int)
    (dss_cons (ds_asg (de_op opx_add (lrx_add false) (de_ix (de_var 0) de_int) de_int) (dg_sub (de_var 0) de_int))
    (dss_cons (ds_asg (de_op op_mod lrx_mod (de_callTy callx_int lc_int rfl c.fr_int (da_cons (de_op opx_add (lrx_add false) (de_op opx_add (lrx_add false) (de_op opx_mul (lrx_mul false) (de_ix (de_var 0) de_int) de_int) (de_op opx_mul (lrx_mul false) (de_ix (de_var 0) de_int) de_int)) de_int) da_nil)) (de_var 1)) (dg_sub (de_var 0) de_int))
    (dss_cons (ds_set (i := 2) nd (de_op op_mod lrx_mod (de_callTy callx_int lc_int rfl c.fr_int (da_cons (de_op opx_add (lrx_add false) (de_op opx_mul (lrx_mul false) (de_ix (de_var 0) de_int) (de_ix (de_var 0) de_int)) (de_op opx_mul (lrx_mul false) (de_ix (de_var 0) de_int) de_int)) da_nil)) de_int))
    (dss_one (ds_ret (de_op op_mod lrx_mod (de_callTy callx_int lc_int rfl c.fr_int (da_cons (de_op opx_add (lrx_add false) (de_op opx_add (lrx_add false) (de_op opx_mul (lrx_mul false) (de_var 2) de_int) (de_op op_fdivW lrx_div (de_var 2) de_int)) de_int) da_nil)) (de_var 1))))))))
theorem d_law_mixed (c : C K mg) : DFn P w K mg base 1 (He.ga K "_law_mixed") [] f_law_mixed := by
  obtain ⟨fd, F⟩ := c.def_ 52
  exact ⟨F.kp, fd, ["_law_store_here"], [], [], def_ok F s_law_mixed (w_law_mixed c), F.bindsN fun _ _ _ _ _ _ us hl => match us, hl with | [_], _ => rfl, .nil, fun _ => .nil⟩
theorem s_law_take : FnScope ["_law_store_here", "_law_many", "_law_cell", "_law_found"] ["_law_store_here", "_law_many"] (defScope (top 67)) := ⟨rfl, rfl, rfl, by decide +kernel, rfl, by decide +kernel, by decide +kernel⟩
theorem w_law_take (c : C K mg) : Walk P w K mg base ["_law_store_here", "_law_many", "_law_cell", "_law_found"] "_law_take" (defScope (top 67)) (He.ga K "_law_take") 1 (defBody (top 67)) b_law_take := fun cdv A outer s H E G XX hr rs =>
  have nd := s_law_take.nd
  (dss_cons (ds_if (dt_cmp op_lt (lr_cmpI _) (de_var 1) de_int) (dss_one (ds_ret de_int)) dss_nil)
    (dss_cons (ds_if (dt_w (dw_and (dt_cmp (opx_eq hr.units) lrx_eq (de_ix (de_var 0) de_int) de_int) (dw_and (dt_cmp (opx_eq hr.units) lrx_eq (de_ix (de_var 0) de_int) de_int) (dw_and1 (dt_cmp op_lt (lr_cmpI _) (de_ix (de_var 0) de_int) (de_callB call_len lc_len rfl c.fr_len (da_cons (de_var 0) da_nil))))))) (dss_cons (ds_set (i := 2) nd (de_callTy callx_int lc_int rfl c.fr_int (da_cons (de_ix (de_var 0) (de_ix (de_var 0) de_int)) da_nil)))
    (dss_cons (ds_asg (de_op opx_add (lrx_add false) (de_ix (de_var 0) de_int) de_int) (dg_sub (de_var 0) de_int))
    (dss_cons (ds_asg (de_op op_mod lrx_mod (de_callTy callx_int lc_int rfl c.fr_int (da_cons (de_op opx_add (lrx_add false) (de_op opx_add (lrx_add false) (de_ix (de_var 0) de_int) (de_op opx_mul (lrx_mul false) (de_var 2) de_int)) de_int) da_nil)) de_int) (dg_sub (de_var 0) de_int))
    (dss_one (ds_if (dt_w (dw_or (dt_cmp op_ge (lr_cmpI _) (de_var 2) (de_op op_pow lrx_pow de_int de_int)) (dw_or1 (dt_cmp op_le (lr_cmpI _) (de_var 2) (de_op op_sub lrx_sub de_int (de_op op_pow lrx_pow de_int de_int)))))) (dss_one (ds_asg (de_callB call_abs lc_abs rfl c.fr_abs (da_cons (de_var 2) da_nil)) (dg_sub (de_var 0) de_int))) (dss_one (ds_asg de_int (dg_sub (de_var 0) de_int)))))))) dss_nil)
    (dss_cons (ds_if (dt_cmp op_gt (lr_cmpI _) (de_ix (de_var 0) de_int) de_int) (dss_cons (ds_set (i := 3) nd (de_op op_mod lrx_mod (de_callTy callx_int lc_int rfl c.fr_int (da_cons (de_ix (de_var 0) de_int) da_nil)) (de_var 1)))
    (dss_cons (ds_asg (de_op op_fdivW lrx_div (de_ix (de_var 0) de_int) (de_var 1)) (dg_sub (de_var 0) de_int))
    (dss_one (ds_ret (de_var 3))))) dss_nil)
    (dss_cons (ds_if (dt_cmp op_gt (lr_cmpI _) (de_ix (de_var 0) de_int) de_int) (dss_one (ds_asg (de_op op_sub lrx_sub (de_ix (de_var 0) de_int) de_int) (dg_sub (de_var 0) de_int))) dss_nil)
    (dss_one (ds_ret (de_op op_mod lrx_mod (de_callTy callx_int lc_int rfl c.fr_int (da_cons (de_call ((d_law_mixed c).mono (Nat.le_of_ble_eq_true rfl)) hr rfl c.g__law_mixed rs.exw (da_cons (de_var 0) da_nil)) da_nil)) (de_var 1))))))))
theorem d_law_take (c : C K mg) : DFn P w K mg base 2 (He.ga K "_law_take") [] f_law_take := by
  obtain ⟨fd, F⟩ := c.def_ 53
  exact ⟨F.kp, fd, ["_law_store_here", "_law_many"], [], [], def_ok F s_law_take (w_law_take c), F.bindsN fun _ _ _ _ _ _ us hl => match us, hl with | [_, _], _ => rfl, .nil, fun _ => .nil⟩
theorem s_law_edge : FnScope ["_law_store_here", "_law_many", "_law_kind"] ["_law_store_here", "_law_many"] (defScope (top 68)) := ⟨rfl, rfl, rfl, by decide +kernel, rfl, by decide +kernel, by decide +kernel⟩
theorem w_law_edge (c : C K mg) : Walk P w K mg base ["_law_store_here", "_law_many", "_law_kind"] "_law_edge" (defScope (top 68)) (He.ga K "_law_edge") 2 (defBody (top 68)) b_law_edge := fun cdv A outer s H E G XX hr rs =>
  have nd := s_law_edge.nd
  (dss_cons (ds_if (dt_cmp op_lt (lr_cmpI _) (de_var 1) de_int) (dss_one (ds_ret de_int)) dss_nil)
    (dss_cons (ds_set (i := 2) nd (de_call ((d_law_take c).mono (Nat.le_of_ble_eq_true rfl)) hr rfl c.g__law_take rs.exw (da_cons (de_var 0) (da_cons de_int da_nil))))
    (dss_cons (ds_if (dt_cmp (opx_eq hr.units) lrx_eq (de_var 2) de_int) (dss_one (ds_ret de_int)) dss_nil)
    (dss_cons (ds_if (dt_cmp (opx_eq hr.units) lrx_eq (de_var 2) de_int) (dss_one (ds_ret (de_op op_sub lrx_sub (de_var 1) de_int))) dss_nil)
    (dss_one (ds_ret (de_call ((d_law_take c).mono (Nat.le_of_ble_eq_true rfl)) hr rfl c.g__law_take rs.exw (da_cons (de_var 0) (da_cons (de_var 1) da_nil)))))))))
theorem d_law_edge (c : C K mg) : DFn P w K mg base 3 (He.ga K "_law_edge") [] f_law_edge := by
  obtain ⟨fd, F⟩ := c.def_ 54
  exact ⟨F.kp, fd, ["_law_store_here", "_law_many"], [], [], def_ok F s_law_edge (w_law_edge c), F.bindsN fun _ _ _ _ _ _ us hl => match us, hl with | [_, _], _ => rfl, .nil, fun _ => .nil⟩
theorem s_law_most : FnScope ["_law_width"] ["_law_width"] (defScope (top 79)) := ⟨rfl, rfl, rfl, by decide +kernel, rfl, by decide +kernel, by decide +kernel⟩
theorem w_law_most (c : C K mg) : Walk P w K mg base ["_law_width"] "_law_most" (defScope (top 79)) (He.ga K "_law_most") 0 (defBody (top 79)) b_law_most := fun cdv A outer s H E G XX hr rs =>
  have nd := s_law_most.nd
  (dss_one (ds_ret (de_ix (de_lst false (da_cons de_int (da_cons de_int (da_cons de_int (da_cons de_int (da_cons de_int da_nil)))))) (de_op op_sub lrx_sub (de_var 0) de_int))))
theorem d_law_most (c : C K mg) : DFn P w K mg base 1 (He.ga K "_law_most") [] f_law_most := by
  obtain ⟨fd, F⟩ := c.def_ 65
  exact ⟨F.kp, fd, ["_law_width"], [], [], def_ok F s_law_most (w_law_most c), F.bindsN fun _ _ _ _ _ _ us hl => match us, hl with | [_], _ => rfl, .nil, fun _ => .nil⟩
theorem s_law_power : FnScope ["_law_base", "_law_times", "_law_found", "_law_k"] ["_law_base", "_law_times"] (defScope (top 69)) := ⟨rfl, rfl, rfl, by decide +kernel, rfl, by decide +kernel, by decide +kernel⟩
theorem w_law_power (c : C K mg) : Walk P w K mg base ["_law_base", "_law_times", "_law_found", "_law_k"] "_law_power" (defScope (top 69)) (He.ga K "_law_power") 0 (defBody (top 69)) b_law_power := fun cdv A outer s H E G XX hr rs =>
  have nd := s_law_power.nd
  (dss_cons (ds_set (i := 2) nd de_int)
    (dss_cons (ds_for (passes_of rfl) rfl (di_range1 rfl c.fr_range (da_cons (de_var 1) da_nil)) (dg_name (i := 3) nd) (dss_one (ds_set (i := 2) nd (de_op opx_mul (lrx_mul false) (de_var 2) (de_var 0)))))
    (dss_one (ds_ret (de_var 2)))))
theorem d_law_power (c : C K mg) : DFn P w K mg base 1 (He.ga K "_law_power") [] f_law_power := by
  obtain ⟨fd, F⟩ := c.def_ 55
  exact ⟨F.kp, fd, ["_law_base", "_law_times"], [], [], def_ok F s_law_power (w_law_power c), F.bindsN fun _ _ _ _ _ _ us hl => match us, hl with | [_, _], _ => rfl, .nil, fun _ => .nil⟩
theorem s_law_rounds : FnScope ["_law_store_here", "_law_width", "_law_top", "_law_limit", "_law_found", "_law_k"] ["_law_store_here", "_law_width", "_law_top"] (defScope (top 81)) := ⟨rfl, rfl, rfl, by decide +kernel, rfl, by decide +kernel, by decide +kernel⟩
theorem w_law_rounds (c : C K mg) : Walk P w K mg base ["_law_store_here", "_law_width", "_law_top", "_law_limit", "_law_found", "_law_k"] "_law_rounds" (defScope (top 81)) (He.ga K "_law_rounds") 3 (defBody (top 81)) b_law_rounds := fun cdv A outer s H E G XX hr rs =>
  have nd := s_law_rounds.nd
  (dss_cons (ds_set (i := 3) nd (de_ix (de_lst false (da_cons de_int (da_cons de_int (da_cons de_int (da_cons de_int (da_cons de_int da_nil)))))) (de_op op_sub lrx_sub (de_var 1) de_int)))
    (dss_cons (ds_if (dt_cmp (opx_eq hr.units) lrx_eq (de_call ((d_law_take c).mono (Nat.le_of_ble_eq_true rfl)) hr rfl c.g__law_take rs.exw (da_cons (de_var 0) (da_cons de_int da_nil))) de_int) (dss_one (ds_set (i := 3) nd (de_call ((d_law_most c).mono (Nat.le_of_ble_eq_true rfl)) hr rfl c.g__law_most rs.exw (da_cons (de_var 1) da_nil)))) dss_nil)
    (dss_cons (ds_set (i := 4) nd (de_call ((d_law_edge c).mono (Nat.le_of_ble_eq_true rfl)) hr rfl c.g__law_edge rs.exw (da_cons (de_var 0) (da_cons (de_op opx_add (lrx_add false) (de_var 3) de_int) da_nil))))
    (dss_cons (ds_for (passes_of rfl) rfl (di_range1 rfl c.fr_range (da_cons de_int da_nil)) (dg_name (i := 5) nd) (dss_one (ds_if (dt_cmp op_gt (lr_cmpI _) (de_call ((d_law_power c).mono (Nat.le_of_ble_eq_true rfl)) hr rfl c.g__law_power rs.exw (da_cons (de_var 1) (da_cons (de_var 4) da_nil))) (de_var 2)) (dss_one (ds_set (i := 4) nd (de_op op_sub lrx_sub (de_var 4) de_int))) dss_nil)))
    (dss_one (ds_ret (de_var 4)))))))
theorem d_law_rounds (c : C K mg) : DFn P w K mg base 4 (He.ga K "_law_rounds") [] f_law_rounds := by
  obtain ⟨fd, F⟩ := c.def_ 67
  exact ⟨F.kp, fd, ["_law_store_here", "_law_width", "_law_top"], [], [], def_ok F s_law_rounds (w_law_rounds c), F.bindsN fun _ _ _ _ _ _ us hl => match us, hl with | [_, _, _], _ => rfl, .nil, fun _ => .nil⟩
theorem s_law_shape : FnScope ["_law_store_here", "_law_top", "_law_width"] ["_law_store_here", "_law_top"] (defScope (top 80)) := ⟨rfl, rfl, rfl, by decide +kernel, rfl, by decide +kernel, by decide +kernel⟩
theorem w_law_shape (c : C K mg) : Walk P w K mg base ["_law_store_here", "_law_top", "_law_width"] "_law_shape" (defScope (top 80)) (He.ga K "_law_shape") 4 (defBody (top 80)) b_law_shape := fun cdv A outer s H E G XX hr rs =>
  have nd := s_law_shape.nd
  (dss_cons (ds_set (i := 2) nd (de_ix (de_lst false (da_cons de_int (da_cons de_int (da_cons de_int (da_cons de_int (da_cons de_int (da_cons de_int (da_cons de_int (da_cons de_int (da_cons de_int (da_cons de_int da_nil))))))))))) (de_call ((d_law_take c).mono (Nat.le_of_ble_eq_true rfl)) hr rfl c.g__law_take rs.exw (da_cons (de_var 0) (da_cons de_int da_nil)))))
    (dss_one (ds_ret (de_tup (da_cons (de_var 2) (da_cons (de_call ((d_law_rounds c).mono (Nat.le_of_ble_eq_true rfl)) hr rfl c.g__law_rounds rs.exw (da_cons (de_var 0) (da_cons (de_var 2) (da_cons (de_var 1) da_nil)))) da_nil))))))
theorem d_law_shape (c : C K mg) : DFn P w K mg base 5 (He.ga K "_law_shape") [] f_law_shape := by
  obtain ⟨fd, F⟩ := c.def_ 66
  exact ⟨F.kp, fd, ["_law_store_here", "_law_top"], [], [], def_ok F s_law_shape (w_law_shape c), F.bindsN fun _ _ _ _ _ _ us hl => match us, hl with | [_, _], _ => rfl, .nil, fun _ => .nil⟩
theorem s_law_lengths : FnScope ["_law_store_here", "_law_rounds_here", "_law_found", "_law_rest", "_law_k", "_law_part"] ["_law_store_here", "_law_rounds_here"] (defScope (top 89)) := ⟨rfl, rfl, rfl, by decide +kernel, rfl, by decide +kernel, by decide +kernel⟩
theorem w_law_lengths (c : C K mg) : Walk P w K mg base ["_law_store_here", "_law_rounds_here", "_law_found", "_law_rest", "_law_k", "_law_part"] "_law_lengths" (defScope (top 89)) (He.ga K "_law_lengths") 3 (defBody (top 89)) b_law_lengths := fun cdv A outer s H E G XX hr rs =>
  have nd := s_law_lengths.nd
  (dss_cons (ds_set (i := 2) nd (de_lst true da_nil))
    (dss_cons (ds_set (i := 3) nd (de_var 1))
    (dss_cons (ds_for (passes_of rfl) rfl (di_range1 rfl c.fr_range (da_cons de_int da_nil)) (dg_name (i := 4) nd) (dss_one (ds_if (dt_cmp op_gt (lr_cmpI _) (de_var 3) de_int) (dss_cons (ds_set (i := 5) nd (de_op opx_add (lrx_add false) de_int (de_call ((d_law_edge c).mono (Nat.le_of_ble_eq_true rfl)) hr rfl c.g__law_edge rs.exw (da_cons (de_var 0) (da_cons (de_var 3) da_nil)))))
    (dss_cons (ds_expr (de_bm PySem.F.plainAttrs_list PySem.F.slot_list_append (by rfl) mt_append lm_append (de_var 2) (da_cons (de_var 5) da_nil)))
    (dss_one (ds_set (i := 3) nd (de_op op_sub lrx_sub (de_var 3) (de_var 5)))))) dss_nil)))
    (dss_cons (ds_for (passes_of rfl) rfl (di_range1 rfl c.fr_range (da_cons (de_call ((d_law_take c).mono (Nat.le_of_ble_eq_true rfl)) hr rfl c.g__law_take rs.exw (da_cons (de_var 0) (da_cons de_int da_nil))) da_nil)) (dg_name (i := 4) nd) (dss_one (ds_expr (de_bm PySem.F.plainAttrs_list PySem.F.slot_list_insert (by rfl) mt_insert lm_insert (de_var 2) (da_cons (de_call ((d_law_take c).mono (Nat.le_of_ble_eq_true rfl)) hr rfl c.g__law_take rs.exw (da_cons (de_var 0) (da_cons (de_op opx_add (lrx_add false) (de_callB call_len lc_len rfl c.fr_len (da_cons (de_var 2) da_nil)) de_int) da_nil))) (da_cons de_int da_nil))))))
    (dss_one (ds_ret (de_frz (de_var 2))))))))
theorem d_law_lengths (c : C K mg) : DFn P w K mg base 4 (He.ga K "_law_lengths") [] f_law_lengths := by
  obtain ⟨fd, F⟩ := c.def_ 75
  exact ⟨F.kp, fd, ["_law_store_here", "_law_rounds_here"], [], [], def_ok F s_law_lengths (w_law_lengths c), F.bindsN fun _ _ _ _ _ _ us hl => match us, hl with | [_, _], _ => rfl, .nil, fun _ => .nil⟩
theorem s_law_gcd : FnScope ["_law_left", "_law_right", "_law_rest"] ["_law_left", "_law_right"] (defScope (top 70)) := ⟨rfl, rfl, rfl, by decide +kernel, rfl, by decide +kernel, by decide +kernel⟩
theorem w_law_gcd (c : C K mg) : Walk P w K mg base ["_law_left", "_law_right", "_law_rest"] "_law_gcd" (defScope (top 70)) (He.ga K "_law_gcd") 0 (defBody (top 70)) b_law_gcd := fun cdv A outer s H E G XX hr rs =>
  have nd := s_law_gcd.nd
  (dss_cons (ds_set (i := 0) nd (de_callB call_abs lc_abs rfl c.fr_abs (da_cons (de_var 0) da_nil)))
    (dss_cons (ds_set (i := 1) nd (de_callB call_abs lc_abs rfl c.fr_abs (da_cons (de_var 1) da_nil)))
    (dss_cons (ds_while (passes_of rfl) (dt_cmp op_gt (lr_cmpI _) (de_var 1) de_int) (dss_cons (ds_set (i := 2) nd (de_op op_mod lrx_mod (de_callTy callx_int lc_int rfl c.fr_int (da_cons (de_var 0) da_nil)) (de_var 1)))
    (dss_cons (ds_set (i := 0) nd (de_var 1))
    (dss_one (ds_set (i := 1) nd (de_var 2))))))
    (dss_one (ds_ret (de_var 0))))))
theorem d_law_gcd (c : C K mg) : DFn P w K mg base 1 (He.ga K "_law_gcd") [] f_law_gcd := by
  obtain ⟨fd, F⟩ := c.def_ 56
  exact ⟨F.kp, fd, ["_law_left", "_law_right"], [], [], def_ok F s_law_gcd (w_law_gcd c), F.bindsN fun _ _ _ _ _ _ us hl => match us, hl with | [_, _], _ => rfl, .nil, fun _ => .nil⟩
theorem s_law_low : FnScope ["_law_top", "_law_bottom", "_law_part"] ["_law_top", "_law_bottom"] (defScope (top 71)) := ⟨rfl, rfl, rfl, by decide +kernel, rfl, by decide +kernel, by decide +kernel⟩
theorem w_law_low (c : C K mg) : Walk P w K mg base ["_law_top", "_law_bottom", "_law_part"] "_law_low" (defScope (top 71)) (He.ga K "_law_low") 1 (defBody (top 71)) b_law_low := fun cdv A outer s H E G XX hr rs =>
  have nd := s_law_low.nd
  (dss_cons (ds_if (dt_cmp (opx_eq hr.units) lrx_eq (de_var 1) de_int) (dss_one (ds_ret (de_tup (da_cons (de_var 0) (da_cons de_int da_nil))))) dss_nil)
    (dss_cons (ds_if (dt_cmp op_lt (lr_cmpI _) (de_var 1) de_int) (dss_cons (ds_set (i := 0) nd (de_op op_sub lrx_sub de_int (de_var 0)))
    (dss_one (ds_set (i := 1) nd (de_op op_sub lrx_sub de_int (de_var 1))))) dss_nil)
    (dss_cons (ds_set (i := 2) nd (de_call ((d_law_gcd c).mono (Nat.le_of_ble_eq_true rfl)) hr rfl c.g__law_gcd rs.exw (da_cons (de_var 0) (da_cons (de_var 1) da_nil))))
    (dss_one (ds_ret (de_tup (da_cons (de_op op_fdivW lrx_div (de_var 0) (de_var 2)) (da_cons (de_op op_fdivW lrx_div (de_var 1) (de_var 2)) da_nil))))))))
theorem d_law_low (c : C K mg) : DFn P w K mg base 2 (He.ga K "_law_low") [] f_law_low := by
  obtain ⟨fd, F⟩ := c.def_ 57
  exact ⟨F.kp, fd, ["_law_top", "_law_bottom"], [], [], def_ok F s_law_low (w_law_low c), F.bindsN fun _ _ _ _ _ _ us hl => match us, hl with | [_, _], _ => rfl, .nil, fun _ => .nil⟩
theorem s_law_dealt : FnScope ["_law_store_here", "_law_width", "_law_kind", "_law_weights", "_law_at", "_law_whole", "_law_y", "_law_weight"] ["_law_store_here", "_law_width"] (defScope (top 93)) := ⟨rfl, rfl, rfl, by decide +kernel, rfl, by decide +kernel, by decide +kernel⟩
theorem w_law_dealt (c : C K mg) : Walk P w K mg base ["_law_store_here", "_law_width", "_law_kind", "_law_weights", "_law_at", "_law_whole", "_law_y", "_law_weight"] "_law_dealt" (defScope (top 93)) (He.ga K "_law_dealt") 2 (defBody (top 93)) b_law_dealt := fun cdv A outer s H E G XX hr rs =>
  have nd := s_law_dealt.nd
  (dss_cons (ds_set (i := 2) nd (de_call ((d_law_take c).mono (Nat.le_of_ble_eq_true rfl)) hr rfl c.g__law_take rs.exw (da_cons (de_var 0) (da_cons de_int da_nil))))
    (dss_cons (ds_setLc (i := 3) (y := "_law_weights") true [("_law_y", 6)] rfl nd (di_range1 rfl c.fr_range (da_cons (de_var 1) da_nil)) (dgw_name (i := 6) nd) dts_nil (fun s H C cl fp => (de_call ((d_law_take c).mono (Nat.le_of_ble_eq_true rfl)) hr rfl c.g__law_take exw0 (da_cons (de_var 0) (da_cons de_int da_nil)))) (ok := rfl))
    (dss_cons (ds_if (dt_cmp op_lt (lr_cmpI _) (de_var 2) de_int) (dss_one (ds_setLc (i := 3) (y := "_law_weights") true [("_law_y", 6)] rfl nd (di_range1 rfl c.fr_range (da_cons (de_var 1) da_nil)) (dgw_name (i := 6) nd) dts_nil (fun s H C cl fp => (de_var 2)) (ok := rfl))) dss_nil)
    (dss_cons (ds_set (i := 4) nd (de_call ((d_law_take c).mono (Nat.le_of_ble_eq_true rfl)) hr rfl c.g__law_take rs.exw (da_cons (de_var 0) (da_cons (de_var 1) da_nil))))
    (dss_cons (ds_asg (de_op opx_add (lrx_add false) (de_ix (de_var 3) (de_var 4)) (de_callTy callx_int lc_int rfl c.fr_int (da_cons (de_cmp (opx_ne hr.units) lrx_ne (de_var 2) de_int) da_nil))) (dg_sub (de_var 3) (de_var 4)))
    (dss_cons (ds_set (i := 5) nd (de_callB (cr_sumA rfl) lc_sumA rfl c.fr_sum (da_cons (de_var 3) da_nil)))
    (dss_one (ds_ret (de_lc false [("_law_weight", 7)] rfl nd (di_seq (de_var 3)) (dgw_name (i := 7) nd) dts_nil (fun s H C cl fp => (de_call ((d_law_low c).mono (Nat.le_of_ble_eq_true rfl)) hr rfl c.g__law_low exw0 (da_cons (de_var 7) (da_cons (de_var 5) da_nil)))) (ok := rfl))))))))))
theorem d_law_dealt (c : C K mg) : DFn P w K mg base 3 (He.ga K "_law_dealt") [] f_law_dealt := by
  obtain ⟨fd, F⟩ := c.def_ 79
  exact ⟨F.kp, fd, ["_law_store_here", "_law_width"], [], [], def_ok F s_law_dealt (w_law_dealt c), F.bindsN fun _ _ _ _ _ _ us hl => match us, hl with | [_, _], _ => rfl, .nil, fun _ => .nil⟩
theorem s_law_texts_b : FnScope ["_law_width", "_law_size", "_law_found", "_law_k", "_law_longer", "_law_text", "_law_y"] ["_law_width", "_law_size"] (defScope (top 82)) := ⟨rfl, rfl, rfl, by decide +kernel, rfl, by decide +kernel, by decide +kernel⟩
theorem w_law_texts_b (c : C K mg) : Walk P w K mg base ["_law_width", "_law_size", "_law_found", "_law_k", "_law_longer", "_law_text", "_law_y"] "_law_texts_b" (defScope (top 82)) (He.ga K "_law_texts_b") 0 (defBody (top 82)) b_law_texts_b := fun cdv A outer s H E G XX hr rs =>
  have nd := s_law_texts_b.nd
  (dss_cons (ds_set (i := 2) nd (de_lst true (da_cons de_str da_nil)))
    (dss_cons (ds_for (passes_of rfl) rfl (di_range1 rfl c.fr_range (da_cons (de_var 1) da_nil)) (dg_name (i := 3) nd) (dss_cons (ds_set (i := 4) nd (de_lst true da_nil))
    (dss_cons (ds_for (passes_of rfl) rfl (di_seq (de_callTy call_list_of (lc_list false) rfl c.fr_list (da_cons (de_var 2) da_nil))) (dg_name (i := 5) nd) (dss_one (ds_for (passes_of rfl) rfl (di_range1 rfl c.fr_range (da_cons (de_var 0) da_nil)) (dg_name (i := 6) nd) (dss_one (ds_expr (de_bm PySem.F.plainAttrs_list PySem.F.slot_list_append (by rfl) mt_append lm_append (de_var 4) (da_cons (de_op opx_add (lrx_add false) (de_var 5) (de_callTy call_str_int lc_str rfl c.fr_str (da_cons (de_var 6) da_nil))) da_nil)))))))
    (dss_one (ds_set (i := 2) nd (de_var 4))))))
    (dss_one (ds_ret (de_var 2)))))
theorem d_law_texts_b (c : C K mg) : DFn P w K mg base 1 (He.ga K "_law_texts_b") [] f_law_texts_b := by
  obtain ⟨fd, F⟩ := c.def_ 68
  exact ⟨F.kp, fd, ["_law_width", "_law_size"], [], [], def_ok F s_law_texts_b (w_law_texts_b c), F.bindsN fun _ _ _ _ _ _ us hl => match us, hl with | [_, _], _ => rfl, .nil, fun _ => .nil⟩
theorem s_law_inner : FnScope ["_law_width", "_law_rounds_here", "_law_found", "_law_size"] ["_law_width", "_law_rounds_here"] (defScope (top 83)) := ⟨rfl, rfl, rfl, by decide +kernel, rfl, by decide +kernel, by decide +kernel⟩
theorem w_law_inner (c : C K mg) : Walk P w K mg base ["_law_width", "_law_rounds_here", "_law_found", "_law_size"] "_law_inner" (defScope (top 83)) (He.ga K "_law_inner") 1 (defBody (top 83)) b_law_inner := fun cdv A outer s H E G XX hr rs =>
  have nd := s_law_inner.nd
  (dss_cons (ds_set (i := 2) nd (de_lst false da_nil))
    (dss_cons (ds_for (passes_of rfl) rfl (di_range1 rfl c.fr_range (da_cons (de_var 1) da_nil)) (dg_name (i := 3) nd) (dss_one (ds_set (i := 2) nd (de_op opx_add (lrx_add false) (de_var 2) (de_call ((d_law_texts_b c).mono (Nat.le_of_ble_eq_true rfl)) hr rfl c.g__law_texts_b rs.exw (da_cons (de_var 0) (da_cons (de_var 3) da_nil)))))))
    (dss_one (ds_ret (de_var 2)))))
theorem d_law_inner (c : C K mg) : DFn P w K mg base 2 (He.ga K "_law_inner") [] f_law_inner := by
  obtain ⟨fd, F⟩ := c.def_ 69
  exact ⟨F.kp, fd, ["_law_width", "_law_rounds_here"], [], [], def_ok F s_law_inner (w_law_inner c), F.bindsN fun _ _ _ _ _ _ us hl => match us, hl with | [_, _], _ => rfl, .nil, fun _ => .nil⟩
theorem s_law_dealt_all : FnScope ["_law_store_here", "_law_width", "_law_rounds_here", "_law_one_here", "_law_text"] ["_law_store_here", "_law_width", "_law_rounds_here"] (defScope (top 94)) := ⟨rfl, rfl, rfl, by decide +kernel, rfl, by decide +kernel, by decide +kernel⟩
theorem w_law_dealt_all (c : C K mg) : Walk P w K mg base ["_law_store_here", "_law_width", "_law_rounds_here", "_law_one_here", "_law_text"] "_law_dealt_all" (defScope (top 94)) (He.ga K "_law_dealt_all") 3 (defBody (top 94)) b_law_dealt_all := fun cdv A outer s H E G XX hr rs =>
  have nd := s_law_dealt_all.nd
  (dss_cons (ds_set (i := 3) nd (de_call ((d_law_dealt c).mono (Nat.le_of_ble_eq_true rfl)) hr rfl c.g__law_dealt rs.exw (da_cons (de_var 0) (da_cons (de_var 1) da_nil))))
    (dss_cons (ds_if (dt_cmp (opx_eq hr.units) lrx_eq (de_call ((d_law_take c).mono (Nat.le_of_ble_eq_true rfl)) hr rfl c.g__law_take rs.exw (da_cons (de_var 0) (da_cons de_int da_nil))) de_int) (dss_one (ds_ret (de_lc false [("_law_text", 4)] rfl nd (di_seq (de_call ((d_law_inner c).mono (Nat.le_of_ble_eq_true rfl)) hr rfl c.g__law_inner rs.exw (da_cons (de_var 1) (da_cons (de_var 2) da_nil)))) (dgw_name (i := 4) nd) dts_nil (fun s H C cl fp => (de_callTy call_list_of (lc_list false) rfl c.fr_list (da_cons (de_var 3) da_nil))) (ok := rfl)))) dss_nil)
    (dss_one (ds_ret (de_lc false [("_law_text", 4)] rfl nd (di_seq (de_call ((d_law_inner c).mono (Nat.le_of_ble_eq_true rfl)) hr rfl c.g__law_inner rs.exw (da_cons (de_var 1) (da_cons (de_var 2) da_nil)))) (dgw_name (i := 4) nd) dts_nil (fun s H C cl fp => (de_call ((d_law_dealt c).mono (Nat.le_of_ble_eq_true rfl)) hr rfl c.g__law_dealt exw0 (da_cons (de_var 0) (da_cons (de_var 1) da_nil)))) (ok := rfl))))))
theorem d_law_dealt_all (c : C K mg) : DFn P w K mg base 4 (He.ga K "_law_dealt_all") [] f_law_dealt_all := by
  obtain ⟨fd, F⟩ := c.def_ 80
  exact ⟨F.kp, fd, ["_law_store_here", "_law_width", "_law_rounds_here"], [], [], def_ok F s_law_dealt_all (w_law_dealt_all c), F.bindsN fun _ _ _ _ _ _ us hl => match us, hl with | [_, _, _], _ => rfl, .nil, fun _ => .nil⟩
theorem s_law_dress : FnScope ["_law_store_here", "_law_value", "_law_kind", "_law_part"] ["_law_store_here", "_law_value"] (defScope (top 75)) := ⟨rfl, rfl, rfl, by decide +kernel, rfl, by decide +kernel, by decide +kernel⟩
theorem w_law_dress (c : C K mg) : Walk P w K mg base ["_law_store_here", "_law_value", "_law_kind", "_law_part"] "_law_dress" (defScope (top 75)) (He.ga K "_law_dress") 2 (defBody (top 75)) b_law_dress := fun cdv A outer s H E G XX hr rs =>
  have nd := s_law_dress.nd
  (dss_cons (ds_set (i := 2) nd (de_call ((d_law_take c).mono (Nat.le_of_ble_eq_true rfl)) hr rfl c.g__law_take rs.exw (da_cons (de_var 0) (da_cons de_int da_nil))))
    (dss_cons (ds_if (dt_w (dw_and (dt_cmp op_lt (lr_cmpI _) (de_var 2) de_int) (dw_and1 (dt_cmp (opx_eq hr.units) lrx_eq (de_ix (de_var 1) de_int) de_int)))) (dss_one (ds_ret (de_ix (de_var 1) de_int))) dss_nil)
    (dss_cons (ds_if (dt_w (dw_and (dt_cmp op_gt (lr_cmpI _) (de_var 2) de_int) (dw_and (dt_cmp op_lt (lr_cmpI _) (de_var 2) de_int) (dw_and (dt_cmp op_lt (lr_cmpI _) (de_callB call_abs lc_abs rfl c.fr_abs (da_cons (de_ix (de_var 1) de_int) da_nil)) (de_op op_pow lrx_pow de_int de_int)) (dw_and1 (dt_cmp op_lt (lr_cmpI _) (de_ix (de_var 1) de_int) (de_op op_pow lrx_pow de_int de_int))))))) (dss_cons (ds_set (i := 3) nd (de_op opx_add (lrx_add false) de_int (de_call ((d_law_take c).mono (Nat.le_of_ble_eq_true rfl)) hr rfl c.g__law_take rs.exw (da_cons (de_var 0) (da_cons de_int da_nil)))))
    (dss_one (ds_ret (de_tup (da_cons (de_op opx_mul (lrx_mul false) (de_ix (de_var 1) de_int) (de_var 3)) (da_cons (de_op opx_mul (lrx_mul false) (de_ix (de_var 1) de_int) (de_var 3)) da_nil)))))) dss_nil)
    (dss_one (ds_ret (de_tup (da_cons (de_ix (de_var 1) de_int) (da_cons (de_ix (de_var 1) de_int) da_nil))))))))
theorem d_law_dress (c : C K mg) : DFn P w K mg base 3 (He.ga K "_law_dress") [] f_law_dress := by
  obtain ⟨fd, F⟩ := c.def_ 61
  exact ⟨F.kp, fd, ["_law_store_here", "_law_value"], [], [], def_ok F s_law_dress (w_law_dress c), F.bindsN fun _ _ _ _ _ _ us hl => match us, hl with | [_, _], _ => rfl, .nil, fun _ => .nil⟩
theorem s_law_dressed : FnScope ["_law_store_here", "_law_values", "_law_value"] ["_law_store_here", "_law_values"] (defScope (top 76)) := ⟨rfl, rfl, rfl, by decide +kernel, rfl, by decide +kernel, by decide +kernel⟩
theorem w_law_dressed (c : C K mg) : Walk P w K mg base ["_law_store_here", "_law_values", "_law_value"] "_law_dressed" (defScope (top 76)) (He.ga K "_law_dressed") 3 (defBody (top 76)) b_law_dressed := fun cdv A outer s H E G XX hr rs =>
  have nd := s_law_dressed.nd
  (dss_one (ds_ret (de_lc false [("_law_value", 2)] rfl nd (di_seq (de_var 1)) (dgw_name (i := 2) nd) dts_nil (fun s H C cl fp => (de_call ((d_law_dress c).mono (Nat.le_of_ble_eq_true rfl)) hr rfl c.g__law_dress exw0 (da_cons (de_var 0) (da_cons (de_var 2) da_nil)))) (ok := rfl))))
theorem d_law_dressed (c : C K mg) : DFn P w K mg base 4 (He.ga K "_law_dressed") [] f_law_dressed := by
  obtain ⟨fd, F⟩ := c.def_ 62
  exact ⟨F.kp, fd, ["_law_store_here", "_law_values"], [], [], def_ok F s_law_dressed (w_law_dressed c), F.bindsN fun _ _ _ _ _ _ us hl => match us, hl with | [_, _], _ => rfl, .nil, fun _ => .nil⟩
theorem s_law_passed : FnScope ["_law_store_here", "_law_shares", "_law_sharing"] ["_law_store_here", "_law_shares"] (defScope (top 96)) := ⟨rfl, rfl, rfl, by decide +kernel, rfl, by decide +kernel, by decide +kernel⟩
theorem w_law_passed (c : C K mg) : Walk P w K mg base ["_law_store_here", "_law_shares", "_law_sharing"] "_law_passed" (defScope (top 96)) (He.ga K "_law_passed") 4 (defBody (top 96)) b_law_passed := fun cdv A outer s H E G XX hr rs =>
  have nd := s_law_passed.nd
  (dss_one (ds_ret (de_lc false [("_law_sharing", 2)] rfl nd (di_seq (de_var 1)) (dgw_name (i := 2) nd) dts_nil (fun s H C cl fp => (de_call ((d_law_dressed c).mono (Nat.le_of_ble_eq_true rfl)) hr rfl c.g__law_dressed exw0 (da_cons (de_var 0) (da_cons (de_var 2) da_nil)))) (ok := rfl))))
theorem d_law_passed (c : C K mg) : DFn P w K mg base 5 (He.ga K "_law_passed") [] f_law_passed := by
  obtain ⟨fd, F⟩ := c.def_ 82
  exact ⟨F.kp, fd, ["_law_store_here", "_law_shares"], [], [], def_ok F s_law_passed (w_law_passed c), F.bindsN fun _ _ _ _ _ _ us hl => match us, hl with | [_, _], _ => rfl, .nil, fun _ => .nil⟩
theorem s_Plan_shares : FnScope ["self"] ["self"] (defScope (EL.mth (top 50) 3)) := ⟨rfl, rfl, rfl, by decide +kernel, rfl, by decide +kernel, by decide +kernel⟩
theorem w_Plan_shares (c : C K mg) : Walk P w K mg base ["self"] "Plan.shares" (defScope (EL.mth (top 50) 3)) (He5.wf K (He.ga K "Plan") "property" "shares") 0 (defBody (EL.mth (top 50) 3)) b_Plan_shares := fun cdv A outer s H E G XX hr rs =>
  have nd := s_Plan_shares.nd
  (dss_one (ds_ret (de_callTy call_list_of (lc_list true) rfl c.fr_list (da_cons (de_fld (de_var 0) c.cl_Plan c.na_Plan_held_shares) da_nil))))
theorem d_Plan_shares (c : C K mg) : DFn P w K mg base 1 (He5.wf K (He.ga K "Plan") "property" "shares") [] f_Plan_shares := by
  obtain ⟨fd, F⟩ := c.def_ 36
  exact ⟨F.kp, fd, ["self"], [], [], def_ok F s_Plan_shares (w_Plan_shares c), F.bindsN fun _ _ _ _ _ _ us hl => match us, hl with | [_], _ => rfl, .nil, fun _ => .nil⟩
theorem s_check_count : FnScope ["value", "low", "high"] ["value", "low", "high"] (defScope (top 58)) := ⟨rfl, rfl, rfl, by decide +kernel, rfl, by decide +kernel, by decide +kernel⟩
theorem w_check_count (c : C K mg) : Walk P w K mg base ["value", "low", "high"] "check_count" (defScope (top 58)) (He.ga K "check_count") 2 (defBody (top 58)) b_check_count := fun cdv A outer s H E G XX hr rs =>
  have nd := s_check_count.nd
  (dss_cons (ds_if (dt_w (dw_or (dt_val (de_isi (de_var 0) rfl c.fr_isinstance rfl c.fr_bool)) (dw_or (dt_cmp op_lt (lr_cmpI _) (de_var 0) (de_var 1)) (dw_or1 (dt_cmp op_gt (lr_cmpI _) (de_var 0) (de_var 2)))))) (dss_one (ds_raiseF rfl rs (x_BadCount c) (hr.mono (Nat.le_of_ble_eq_true rfl)) rfl c.g_BadCount (da_cons (de_var 0) (da_cons (de_var 1) (da_cons (de_var 2) da_nil))))) dss_nil)
    (dss_one (ds_ret (de_var 0))))
theorem d_check_count (c : C K mg) : DFn P w K mg base 3 (He.ga K "check_count") [] f_check_count := by
  obtain ⟨fd, F⟩ := c.def_ 46
  exact ⟨F.kp, fd, ["value", "low", "high"], [], [], def_ok F s_check_count (w_check_count c), F.bindsN fun _ _ _ _ _ _ us hl => match us, hl with | [_, _, _], _ => rfl, .nil, fun _ => .nil⟩
theorem s_check_lengths : FnScope ["lengths", "rounds", "length"] ["lengths", "rounds"] (defScope (top 60)) := ⟨rfl, rfl, rfl, by decide +kernel, rfl, by decide +kernel, by decide +kernel⟩
theorem w_check_lengths (c : C K mg) : Walk P w K mg base ["lengths", "rounds", "length"] "check_lengths" (defScope (top 60)) (He.ga K "check_lengths") 3 (defBody (top 60)) b_check_lengths := fun cdv A outer s H E G XX hr rs =>
  have nd := s_check_lengths.nd
  (dss_cons (ds_for (passes_of rfl) rfl (di_seq (de_var 0)) (dg_name (i := 2) nd) (dss_one (ds_expr (de_call ((d_check_count c).mono (Nat.le_of_ble_eq_true rfl)) hr rfl c.g_check_count_horizons rs.exw (da_cons (de_var 2) (da_cons de_int (da_cons (de_gInt rfl c.v_MOST_LENGTH) da_nil)))))))
    (dss_one (ds_if (dt_cmp (opx_ne hr.units) lrx_ne (de_callB (cr_sumA rfl) lc_sumA rfl c.fr_sum (da_cons (de_var 0) da_nil)) (de_var 1)) (dss_one (ds_raiseT rfl rs c.x_Mismatch rfl c.g_Mismatch)) dss_nil)))
theorem d_check_lengths (c : C K mg) : DFn P w K mg base 4 (He.ga K "check_lengths") [] f_check_lengths := by
  obtain ⟨fd, F⟩ := c.def_ 47
  exact ⟨F.kp, fd, ["lengths", "rounds"], [], [], def_ok F s_check_lengths (w_check_lengths c), F.bindsN fun _ _ _ _ _ _ us hl => match us, hl with | [_, _], _ => rfl, .nil, fun _ => .nil⟩
theorem s_Plan_rounds : FnScope ["self"] ["self"] (defScope (EL.mth (top 50) 2)) := ⟨rfl, rfl, rfl, by decide +kernel, rfl, by decide +kernel, by decide +kernel⟩
theorem w_Plan_rounds (c : C K mg) : Walk P w K mg base ["self"] "Plan.rounds" (defScope (EL.mth (top 50) 2)) (He5.wf K (He.ga K "Plan") "property" "rounds") 0 (defBody (EL.mth (top 50) 2)) b_Plan_rounds := fun cdv A outer s H E G XX hr rs =>
  have nd := s_Plan_rounds.nd
  (dss_one (ds_ret (de_fld (de_var 0) c.cl_Plan c.na_Plan_held_rounds)))
theorem d_Plan_rounds (c : C K mg) : DFn P w K mg base 1 (He5.wf K (He.ga K "Plan") "property" "rounds") [] f_Plan_rounds := by
  obtain ⟨fd, F⟩ := c.def_ 35
  exact ⟨F.kp, fd, ["self"], [], [], def_ok F s_Plan_rounds (w_Plan_rounds c), F.bindsN fun _ _ _ _ _ _ us hl => match us, hl with | [_], _ => rfl, .nil, fun _ => .nil⟩
theorem s_stretch_starts : FnScope ["lengths", "rounds", "starts", "end", "length", "at"] ["lengths", "rounds"] (defScope (top 62)) := ⟨rfl, rfl, rfl, by decide +kernel, rfl, by decide +kernel, by decide +kernel⟩
theorem w_stretch_starts (c : C K mg) : Walk P w K mg base ["lengths", "rounds", "starts", "end", "length", "at"] "stretch_starts" (defScope (top 62)) (He.ga K "stretch_starts") 0 (defBody (top 62)) b_stretch_starts := fun cdv A outer s H E G XX hr rs =>
  have nd := s_stretch_starts.nd
  (dss_cons (ds_set (i := 2) nd (de_op opx_mul (lrx_mul true) (de_lst false (da_cons de_int da_nil)) (de_var 1)))
    (dss_cons (ds_set (i := 3) nd de_int)
    (dss_cons (ds_for (passes_of rfl) rfl (di_seq (de_var 0)) (dg_name (i := 4) nd) (dss_cons (ds_set (i := 3) nd (de_op opx_add (lrx_add false) (de_var 3) (de_var 4)))
    (dss_one (ds_for (passes_of rfl) rfl (di_range2 rfl c.fr_range (da_cons (de_var 3) (da_cons (de_var 1) da_nil))) (dg_name (i := 5) nd) (dss_one (ds_asg (de_var 3) (dg_sub (de_var 2) (de_var 5))))))))
    (dss_one (ds_ret (de_var 2))))))
theorem d_stretch_starts (c : C K mg) : DFn P w K mg base 1 (He.ga K "stretch_starts") [] f_stretch_starts := by
  obtain ⟨fd, F⟩ := c.def_ 49
  exact ⟨F.kp, fd, ["lengths", "rounds"], [], [], def_ok F s_stretch_starts (w_stretch_starts c), F.bindsN fun _ _ _ _ _ _ us hl => match us, hl with | [_, _], _ => rfl, .nil, fun _ => .nil⟩
theorem s_Plan___call__ : FnScope ["self", "beginning"] ["self", "beginning"] (defScope (EL.mth (top 50) 4)) := ⟨rfl, rfl, rfl, by decide +kernel, rfl, by decide +kernel, by decide +kernel⟩
theorem w_Plan___call__ (c : C K mg) : Walk P w K mg base ["self", "beginning"] "Plan.__call__" (defScope (EL.mth (top 50) 4)) (He.ma K (He.ga K "Plan") "__call__") 2 (defBody (EL.mth (top 50) 4)) b_Plan___call__ := fun cdv A outer s H E G XX hr rs =>
  have nd := s_Plan___call__.nd
  (dss_cons (ds_if (dt_notInD (room1 hr) (de_var 1) (de_fld (de_var 0) c.cl_Plan c.na_Plan_held_places)) (dss_one (ds_raiseF rfl rs (x_BadRow c) (hr.mono (Nat.le_of_ble_eq_true rfl)) rfl c.g_BadRow (da_cons (de_var 1) da_nil))) dss_nil)
    (dss_one (ds_ret (de_dget (room1 hr) (de_fld (de_var 0) c.cl_Plan c.na_Plan_held_places) (de_var 1)))))
theorem d_Plan___call__ (c : C K mg) : DFn P w K mg base 3 (He.ma K (He.ga K "Plan") "__call__") [] f_Plan___call__ := by
  obtain ⟨fd, F⟩ := c.def_ 37
  exact ⟨F.kp, fd, ["self", "beginning"], [], [], def_ok F s_Plan___call__ (w_Plan___call__ c), F.bindsN fun _ _ _ _ _ _ us hl => match us, hl with | [_, _], _ => rfl, .nil, fun _ => .nil⟩
theorem s_Plan_width : FnScope ["self"] ["self"] (defScope (EL.mth (top 50) 1)) := ⟨rfl, rfl, rfl, by decide +kernel, rfl, by decide +kernel, by decide +kernel⟩
theorem w_Plan_width (c : C K mg) : Walk P w K mg base ["self"] "Plan.width" (defScope (EL.mth (top 50) 1)) (He5.wf K (He.ga K "Plan") "property" "width") 0 (defBody (EL.mth (top 50) 1)) b_Plan_width := fun cdv A outer s H E G XX hr rs =>
  have nd := s_Plan_width.nd
  (dss_one (ds_ret (de_fld (de_var 0) c.cl_Plan c.na_Plan_held_width)))
theorem d_Plan_width (c : C K mg) : DFn P w K mg base 1 (He5.wf K (He.ga K "Plan") "property" "width") [] f_Plan_width := by
  obtain ⟨fd, F⟩ := c.def_ 34
  exact ⟨F.kp, fd, ["self"], [], [], def_ok F s_Plan_width (w_Plan_width c), F.bindsN fun _ _ _ _ _ _ us hl => match us, hl with | [_], _ => rfl, .nil, fun _ => .nil⟩
theorem s_anew : FnScope ["plan", "lengths", "starts", "shares", "text"] ["plan", "lengths"] (defScope (top 63)) := ⟨rfl, rfl, rfl, by decide +kernel, rfl, by decide +kernel, by decide +kernel⟩
theorem w_anew (c : C K mg) : Walk P w K mg base ["plan", "lengths", "starts", "shares", "text"] "anew" (defScope (top 63)) (He.ga K "anew") 8 (defBody (top 63)) b_anew := fun cdv A outer s H E G XX hr rs =>
  have nd := s_anew.nd
  (dss_cons (ds_expr (de_call ((d_check_lengths c).mono (Nat.le_of_ble_eq_true rfl)) hr rfl c.g_check_lengths rs.exw (da_cons (de_var 1) (da_cons (de_prop (d_Plan_rounds c) (de_var 0) c.cl_Plan c.pr_Plan_rounds (hr.mono (Nat.le_of_ble_eq_true rfl))) da_nil))))
    (dss_cons (ds_set (i := 2) nd (de_call ((d_stretch_starts c).mono (Nat.le_of_ble_eq_true rfl)) hr rfl c.g_stretch_starts rs.exw (da_cons (de_var 1) (da_cons (de_prop (d_Plan_rounds c) (de_var 0) c.cl_Plan c.pr_Plan_rounds (hr.mono (Nat.le_of_ble_eq_true rfl))) da_nil))))
    (dss_cons (ds_setLc (i := 3) (y := "shares") false [("text", 4)] rfl nd (di_seq (de_callKw ((k_beginnings_of c).mono (Nat.le_of_ble_eq_true rfl)) hr rfl c.g_beginnings_of rs.exw (da_cons (de_prop (d_Plan_rounds c) (de_var 0) c.cl_Plan c.pr_Plan_rounds (hr.mono (Nat.le_of_ble_eq_true rfl))) da_nil) (dk_cons (de_prop (d_Plan_width c) (de_var 0) c.cl_Plan c.pr_Plan_width (hr.mono (Nat.le_of_ble_eq_true rfl))) dk_nil))) (dgw_name (i := 4) nd) dts_nil (fun s H C cl fp => (de_callO ((d_Plan___call__ c).mono (Nat.le_of_ble_eq_true rfl)) c.co_Plan hr exw0 (de_var 0) (da_cons (de_slice false (de_var 4) (do_some (de_ix (de_var 2) (de_callB call_len lc_len rfl c.fr_len (da_cons (de_var 4) da_nil)))) do_none) da_nil))) (ok := rfl))
    (dss_one (ds_ret (de_make false c.mk_Plan (d_Plan___init__ c) (hr.mono (Nat.le_of_ble_eq_true rfl)) rfl c.g_Plan rs.exw (da_cons (de_prop (d_Plan_width c) (de_var 0) c.cl_Plan c.pr_Plan_width (hr.mono (Nat.le_of_ble_eq_true rfl))) (da_cons (de_prop (d_Plan_rounds c) (de_var 0) c.cl_Plan c.pr_Plan_rounds (hr.mono (Nat.le_of_ble_eq_true rfl))) (da_cons (de_var 3) da_nil)))))))))
theorem d_anew (c : C K mg) : DFn P w K mg base 9 (He.ga K "anew") [] f_anew := by
  obtain ⟨fd, F⟩ := c.def_ 50
  exact ⟨F.kp, fd, ["plan", "lengths"], [], [], def_ok F s_anew (w_anew c), F.bindsN fun _ _ _ _ _ _ us hl => match us, hl with | [_, _], _ => rfl, .nil, fun _ => .nil⟩
theorem s_law_same : FnScope ["_law_actual", "_law_due", "_law_k"] ["_law_actual", "_law_due"] (defScope (top 78)) := ⟨rfl, rfl, rfl, by decide +kernel, rfl, by decide +kernel, by decide +kernel⟩
theorem w_law_same (c : C K mg) {m : Nat} {f : DSp} (F0 : DFn P w K mg base (m + 1) (He.ga K "_law_same") [] f) : Walk P w K mg base ["_law_actual", "_law_due", "_law_k"] "_law_same" (defScope (top 78)) (He.ga K "_law_same") (m + 1) (defBody (top 78)) (b_law_same f) := fun cdv A outer s H E G XX hr rs =>
  have nd := s_law_same.nd
  (dss_cons (ds_if (dt_cmp op_isN lr_isN (de_var 1) de_non) (dss_one (ds_ret (de_cmp op_isN lr_isN (de_var 0) de_non))) dss_nil)
    (dss_cons (ds_if (dt_val (de_isi (de_var 1) rfl c.fr_isinstance rfl c.fr_bool)) (dss_one (ds_ret (de_and (de_isi (de_var 0) rfl c.fr_isinstance rfl c.fr_bool) (de_and1 (de_cmp (opx_eq hr.units) lrx_eq (de_var 0) (de_var 1)))))) dss_nil)
    (dss_cons (ds_if (dt_val (de_isi (de_var 1) rfl c.fr_isinstance rfl c.fr_int)) (dss_one (ds_ret (de_and (de_isi (de_var 0) rfl c.fr_isinstance rfl c.fr_int) (de_and (de_not (de_isi (de_var 0) rfl c.fr_isinstance rfl c.fr_bool)) (de_and1 (de_cmp (opx_eq hr.units) lrx_eq (de_var 0) (de_var 1))))))) dss_nil)
    (dss_cons (ds_if (dt_val (de_isi (de_var 1) rfl c.fr_isinstance rfl c.fr_str)) (dss_one (ds_ret (de_and (de_isi (de_var 0) rfl c.fr_isinstance rfl c.fr_str) (de_and1 (de_cmp (opx_eq hr.units) lrx_eq (de_var 0) (de_var 1)))))) dss_nil)
    (dss_cons (ds_if (dt_val (de_isi (de_var 1) rfl c.fr_isinstance rfl c.fr_tuple)) (dss_one (ds_if (dt_not (dt_val (de_isi (de_var 0) rfl c.fr_isinstance rfl c.fr_tuple))) (dss_one (ds_ret de_bl)) dss_nil)) (dss_one (ds_if (dt_not (dt_val (de_isi (de_var 0) rfl c.fr_isinstance rfl c.fr_list))) (dss_one (ds_ret de_bl)) dss_nil)))
    (dss_cons (ds_if (dt_cmp (opx_ne hr.units) lrx_ne (de_callB call_len lc_len rfl c.fr_len (da_cons (de_var 0) da_nil)) (de_callB call_len lc_len rfl c.fr_len (da_cons (de_var 1) da_nil))) (dss_one (ds_ret de_bl)) dss_nil)
    (dss_cons (ds_for (passes_of rfl) rfl (di_range1 rfl c.fr_range (da_cons (de_callB call_len lc_len rfl c.fr_len (da_cons (de_var 1) da_nil)) da_nil)) (dg_name (i := 2) nd) (dss_one (ds_if (dt_not (dt_val (de_call F0 hr rfl c.g__law_same exw0 (da_cons (de_ix (de_var 0) (de_var 2)) (da_cons (de_ix (de_var 1) (de_var 2)) da_nil))))) (dss_one (ds_ret de_bl)) dss_nil)))
    (dss_one (ds_ret de_bl)))))))))
theorem d_law_same (c : C K mg) : ∀ m : Nat, DFn P w K mg base (m + 1) (He.ga K "_law_same") [] (f_law_same m)
  | 0 => by
    obtain ⟨fd, F⟩ := c.def_ 64
    exact ⟨F.kp, fd, ["_law_actual", "_law_due"], [], [], def_ok F s_law_same (fun _ _ _ _ _ _ _ _ _ _ => dss_never), F.bindsN fun _ _ _ _ _ _ us hl => match us, hl with | [_, _], _ => rfl, .nil, fun _ => .nil⟩
  | m + 1 => by
    obtain ⟨fd, F⟩ := c.def_ 64
    exact ⟨F.kp, fd, ["_law_actual", "_law_due"], [], [], def_ok F s_law_same (w_law_same c (d_law_same c m)), F.bindsN fun _ _ _ _ _ _ us hl => match us, hl with | [_, _], _ => rfl, .nil, fun _ => .nil⟩
theorem wh_law_same (c : C K mg) {m : Nat} {f : DSp} (F0 : DFh P w K mg base (m + 1) (He.ga K "_law_same") f) : WalkH P w K mg base ["_law_actual", "_law_due", "_law_k"] "_law_same" (defScope (top 78)) (He.ga K "_law_same") (m + 1) (defBody (top 78)) (b_law_same f) := fun cdv A outer s H E p G hot hr =>
  have nd := s_law_same.nd
  have hc : L2H.HotC (L2H.cxH (L2N.CX P w) P w K mg base ["_law_actual", "_law_due", "_law_k"] "_law_same" (defScope (top 78)) (He.ga K "_law_same") cdv A outer s H E p) := ⟨p, hot, List.mem_cons_self⟩
  (dss_cons (ds_if (dt_cmp op_isN lr_isN (de_var 1) de_non) (dss_one (ds_ret (de_cmp op_isN lr_isN (de_var 0) de_non))) dss_nil)
    (dss_cons (ds_if (dt_val (de_isi (de_var 1) rfl c.fr_isinstance rfl c.fr_bool)) (dss_one (ds_ret (de_and (de_isi (de_var 0) rfl c.fr_isinstance rfl c.fr_bool) (de_and1 (de_cmp (opx_eq (roomHu hr)) lrx_eq (de_var 0) (de_var 1)))))) dss_nil)
    (dss_cons (ds_if (dt_val (de_isi (de_var 1) rfl c.fr_isinstance rfl c.fr_int)) (dss_one (ds_ret (de_and (de_isi (de_var 0) rfl c.fr_isinstance rfl c.fr_int) (de_and (de_not (de_isi (de_var 0) rfl c.fr_isinstance rfl c.fr_bool)) (de_and1 (de_cmp (opx_eq (roomHu hr)) lrx_eq (de_var 0) (de_var 1))))))) dss_nil)
    (dss_cons (ds_if (dt_val (de_isi (de_var 1) rfl c.fr_isinstance rfl c.fr_str)) (dss_one (ds_ret (de_and (de_isi (de_var 0) rfl c.fr_isinstance rfl c.fr_str) (de_and1 (de_cmp (opx_eq (roomHu hr)) lrx_eq (de_var 0) (de_var 1)))))) dss_nil)
    (dss_cons (ds_if (dt_val (de_isi (de_var 1) rfl c.fr_isinstance rfl c.fr_tuple)) (dss_one (ds_if (dt_not (dt_val (de_isi (de_var 0) rfl c.fr_isinstance rfl c.fr_tuple))) (dss_one (ds_ret de_bl)) dss_nil)) (dss_one (ds_if (dt_not (dt_val (de_isi (de_var 0) rfl c.fr_isinstance rfl c.fr_list))) (dss_one (ds_ret de_bl)) dss_nil)))
    (dss_cons (ds_if (dt_cmp (opx_ne (roomHu hr)) lrx_ne (de_callB call_len lc_len rfl c.fr_len (da_cons (de_var 0) da_nil)) (de_callB call_len lc_len rfl c.fr_len (da_cons (de_var 1) da_nil))) (dss_one (ds_ret de_bl)) dss_nil)
    (dss_cons (ds_forH (passes_of rfl) hc (di_range1H rfl c.fr_range (da_cons (de_callB call_len lc_len rfl c.fr_len (da_cons (de_var 1) da_nil)) da_nil)) (dg_name (i := 2) nd) (dss_one (ds_if (dt_not (dt_val (de_callH F0 hr hc rfl c.g__law_same (da_cons (de_ix (de_var 0) (de_var 2)) (da_cons (de_ix (de_var 1) (de_var 2)) da_nil))))) (dss_one (ds_ret de_bl)) dss_nil)))
    (dss_one (ds_ret de_bl)))))))))
theorem h_law_same (c : C K mg) : ∀ m : Nat, DFh P w K mg base (m + 1) (He.ga K "_law_same") (f_law_same m)
  | 0 => by
    obtain ⟨fd, F⟩ := c.def_ 64
    exact ⟨F.kp, fd, ["_law_actual", "_law_due"], def_okH F s_law_same (fun _ _ _ _ _ _ _ _ _ _ => dss_never) (fun h => h), F.bindsN fun _ _ _ _ _ _ us hl => match us, hl with | [_, _], _ => rfl⟩
  | m + 1 => by
    obtain ⟨fd, F⟩ := c.def_ 64
    exact ⟨F.kp, fd, ["_law_actual", "_law_due"], def_okH F s_law_same (wh_law_same c (h_law_same c m)) (fun h => h), F.bindsN fun _ _ _ _ _ _ us hl => match us, hl with | [_, _], _ => rfl⟩
theorem s_law_free : FnScope ["_law_store_here", "_law_signs", "_law_size", "_law_found", "_law_k"] ["_law_store_here", "_law_signs", "_law_size"] (defScope (top 85)) := ⟨rfl, rfl, rfl, by decide +kernel, rfl, by decide +kernel, by decide +kernel⟩
theorem w_law_free (c : C K mg) : Walk P w K mg base ["_law_store_here", "_law_signs", "_law_size", "_law_found", "_law_k"] "_law_free" (defScope (top 85)) (He.ga K "_law_free") 2 (defBody (top 85)) b_law_free := fun cdv A outer s H E G XX hr rs =>
  have nd := s_law_free.nd
  (dss_cons (ds_set (i := 3) nd de_str)
    (dss_cons (ds_for (passes_of rfl) rfl (di_range1 rfl c.fr_range (da_cons (de_var 2) da_nil)) (dg_name (i := 4) nd) (dss_one (ds_set (i := 3) nd (de_op opx_add (lrx_add false) (de_var 3) (de_ix (de_var 1) (de_call ((d_law_take c).mono (Nat.le_of_ble_eq_true rfl)) hr rfl c.g__law_take rs.exw (da_cons (de_var 0) (da_cons (de_callB call_len lc_len rfl c.fr_len (da_cons (de_var 1) da_nil)) da_nil))))))))
    (dss_one (ds_ret (de_var 3)))))
theorem d_law_free (c : C K mg) : DFn P w K mg base 3 (He.ga K "_law_free") [] f_law_free := by
  obtain ⟨fd, F⟩ := c.def_ 71
  exact ⟨F.kp, fd, ["_law_store_here", "_law_signs", "_law_size"], [], [], def_ok F s_law_free (w_law_free c), F.bindsN fun _ _ _ _ _ _ us hl => match us, hl with | [_, _, _], _ => rfl, .nil, fun _ => .nil⟩
theorem s_law_told_shares : FnScope ["_law_shares", "_law_sharing"] ["_law_shares"] (defScope (top 86)) := ⟨rfl, rfl, rfl, by decide +kernel, rfl, by decide +kernel, by decide +kernel⟩
theorem w_law_told_shares (c : C K mg) : Walk P w K mg base ["_law_shares", "_law_sharing"] "_law_told_shares" (defScope (top 86)) (He.ga K "_law_told_shares") 0 (defBody (top 86)) b_law_told_shares := fun cdv A outer s H E G XX hr rs =>
  have nd := s_law_told_shares.nd
  (dss_one (ds_ret (de_lc false [("_law_sharing", 1)] rfl nd (di_seq (de_var 0)) (dgw_name (i := 1) nd) dts_nil (fun s H C cl fp => (de_callTy call_tuple_of lc_tuple rfl c.fr_tuple (da_cons (de_var 1) da_nil))) (ok := rfl))))
theorem d_law_told_shares (c : C K mg) : DFn P w K mg base 1 (He.ga K "_law_told_shares") [] f_law_told_shares := by
  obtain ⟨fd, F⟩ := c.def_ 72
  exact ⟨F.kp, fd, ["_law_shares"], [], [], def_ok F s_law_told_shares (w_law_told_shares c), F.bindsN fun _ _ _ _ _ _ us hl => match us, hl with | [_], _ => rfl, .nil, fun _ => .nil⟩
theorem s_law_is_plan : FnScope ["_law_plan", "_law_width", "_law_rounds_here", "_law_shares"] ["_law_plan", "_law_width", "_law_rounds_here", "_law_shares"] (defScope (top 88)) := ⟨rfl, rfl, rfl, by decide +kernel, rfl, by decide +kernel, by decide +kernel⟩
theorem w_law_is_plan (c : C K mg) : Walk P w K mg base ["_law_plan", "_law_width", "_law_rounds_here", "_law_shares"] "_law_is_plan" (defScope (top 88)) (He.ga K "_law_is_plan") 6 (defBody (top 88)) b_law_is_plan := fun cdv A outer s H E G XX hr rs =>
  have nd := s_law_is_plan.nd
  (dss_cons (ds_if (dt_w (dw_or (dt_not (dt_val (de_call ((d_law_same c 5).mono (Nat.le_of_ble_eq_true rfl)) hr rfl c.g__law_same rs.exw (da_cons (de_prop (d_Plan_width c) (de_var 0) c.cl_Plan c.pr_Plan_width (hr.mono (Nat.le_of_ble_eq_true rfl))) (da_cons (de_var 1) da_nil))))) (dw_or1 (dt_not (dt_val (de_call ((d_law_same c 5).mono (Nat.le_of_ble_eq_true rfl)) hr rfl c.g__law_same rs.exw (da_cons (de_prop (d_Plan_rounds c) (de_var 0) c.cl_Plan c.pr_Plan_rounds (hr.mono (Nat.le_of_ble_eq_true rfl))) (da_cons (de_var 2) da_nil)))))))) (dss_one (ds_ret de_bl)) dss_nil)
    (dss_one (ds_ret (de_call ((d_law_same c 5).mono (Nat.le_of_ble_eq_true rfl)) hr rfl c.g__law_same rs.exw (da_cons (de_prop (d_Plan_shares c) (de_var 0) c.cl_Plan c.pr_Plan_shares (hr.mono (Nat.le_of_ble_eq_true rfl))) (da_cons (de_call ((d_law_told_shares c).mono (Nat.le_of_ble_eq_true rfl)) hr rfl c.g__law_told_shares rs.exw (da_cons (de_var 3) da_nil)) da_nil))))))
theorem d_law_is_plan (c : C K mg) : DFn P w K mg base 7 (He.ga K "_law_is_plan") [] f_law_is_plan := by
  obtain ⟨fd, F⟩ := c.def_ 74
  exact ⟨F.kp, fd, ["_law_plan", "_law_width", "_law_rounds_here", "_law_shares"], [], [], def_ok F s_law_is_plan (w_law_is_plan c), F.bindsN fun _ _ _ _ _ _ us hl => match us, hl with | [_, _, _, _], _ => rfl, .nil, fun _ => .nil⟩
theorem s_law_index : FnScope ["_law_width", "_law_text", "_law_found", "_law_sign"] ["_law_width", "_law_text"] (defScope (top 84)) := ⟨rfl, rfl, rfl, by decide +kernel, rfl, by decide +kernel, by decide +kernel⟩
theorem w_law_index (c : C K mg) : Walk P w K mg base ["_law_width", "_law_text", "_law_found", "_law_sign"] "_law_index" (defScope (top 84)) (He.ga K "_law_index") 0 (defBody (top 84)) b_law_index := fun cdv A outer s H E G XX hr rs =>
  have nd := s_law_index.nd
  (dss_cons (ds_set (i := 2) nd de_int)
    (dss_cons (ds_for (passes_of rfl) rfl (di_seq (de_var 1)) (dg_name (i := 3) nd) (dss_one (ds_set (i := 2) nd (de_op opx_add (lrx_add false) (de_op opx_add (lrx_add false) (de_op opx_mul (lrx_mul false) (de_var 2) (de_var 0)) de_int) (de_callTy callx_int lc_int rfl c.fr_int (da_cons (de_var 3) da_nil))))))
    (dss_one (ds_ret (de_var 2)))))
theorem d_law_index (c : C K mg) : DFn P w K mg base 1 (He.ga K "_law_index") [] f_law_index := by
  obtain ⟨fd, F⟩ := c.def_ 70
  exact ⟨F.kp, fd, ["_law_width", "_law_text"], [], [], def_ok F s_law_index (w_law_index c), F.bindsN fun _ _ _ _ _ _ us hl => match us, hl with | [_, _], _ => rfl, .nil, fun _ => .nil⟩
theorem s_law_cut : FnScope ["_law_row", "_law_lengths_here", "_law_found", "_law_at", "_law_size"] ["_law_row", "_law_lengths_here"] (defScope (top 97)) := ⟨rfl, rfl, rfl, by decide +kernel, rfl, by decide +kernel, by decide +kernel⟩
theorem w_law_cut (c : C K mg) : Walk P w K mg base ["_law_row", "_law_lengths_here", "_law_found", "_law_at", "_law_size"] "_law_cut" (defScope (top 97)) (He.ga K "_law_cut") 0 (defBody (top 97)) b_law_cut := fun cdv A outer s H E G XX hr rs =>
  have nd := s_law_cut.nd
  (dss_cons (ds_set (i := 2) nd (de_lst true da_nil))
    (dss_cons (ds_set (i := 3) nd de_int)
    (dss_cons (ds_for (passes_of rfl) rfl (di_seq (de_var 1)) (dg_name (i := 4) nd) (dss_cons (ds_expr (de_bm PySem.F.plainAttrs_list PySem.F.slot_list_append (by rfl) mt_append lm_append (de_var 2) (da_cons (de_slice false (de_var 0) (do_some (de_var 3)) (do_some (de_op opx_add (lrx_add false) (de_var 3) (de_var 4)))) da_nil)))
    (dss_one (ds_set (i := 3) nd (de_op opx_add (lrx_add false) (de_var 3) (de_var 4))))))
    (dss_one (ds_ret (de_frz (de_var 2)))))))
theorem d_law_cut (c : C K mg) : DFn P w K mg base 1 (He.ga K "_law_cut") [] f_law_cut := by
  obtain ⟨fd, F⟩ := c.def_ 83
  exact ⟨F.kp, fd, ["_law_row", "_law_lengths_here"], [], [], def_ok F s_law_cut (w_law_cut c), F.bindsN fun _ _ _ _ _ _ us hl => match us, hl with | [_, _], _ => rfl, .nil, fun _ => .nil⟩
theorem s_has_only : FnScope ["text", "signs", "sign"] ["text", "signs"] (defScope (top 37)) := ⟨rfl, rfl, rfl, by decide +kernel, rfl, by decide +kernel, by decide +kernel⟩
theorem w_has_only (c : C K mg) : Walk P w K mg base ["text", "signs", "sign"] "has_only" (defScope (top 37)) (He.ga K "has_only") 0 (defBody (top 37)) b_has_only := fun cdv A outer s H E G XX hr rs =>
  have nd := s_has_only.nd
  (dss_cons (ds_for (passes_of rfl) rfl (di_seq (de_var 0)) (dg_name (i := 2) nd) (dss_one (ds_if (dt_cmp op_notIn_sign lr_notInS (de_var 2) (de_var 1)) (dss_one (ds_ret de_bl)) dss_nil)))
    (dss_one (ds_ret de_bl)))
theorem d_has_only (c : C K mg) : DFn P w K mg base 1 (He.ga K "has_only") [] f_has_only := by
  obtain ⟨fd, F⟩ := c.def_ 22
  exact ⟨F.kp, fd, ["text", "signs"], [], [], def_ok F s_has_only (w_has_only c), F.bindsN fun _ _ _ _ _ _ us hl => match us, hl with | [_, _], _ => rfl, .nil, fun _ => .nil⟩
theorem s_is_row : FnScope ["text", "rounds", "width"] ["text", "rounds", "width"] (defScope (top 41)) := ⟨rfl, rfl, rfl, by decide +kernel, rfl, by decide +kernel, by decide +kernel⟩
theorem w_is_row (c : C K mg) : Walk P w K mg base ["text", "rounds", "width"] "is_row" (defScope (top 41)) (He.ga K "is_row") 5 (defBody (top 41)) b_is_row := fun cdv A outer s H E G XX hr rs =>
  have nd := s_is_row.nd
  (dss_cons (ds_expr (de_call ((d_check_shape c).mono (Nat.le_of_ble_eq_true rfl)) hr rfl c.g_check_shape rs.exw (da_cons (de_var 2) (da_cons (de_var 1) da_nil))))
    (dss_one (ds_ret (de_and (de_cmp (opx_eq hr.units) lrx_eq (de_callB call_len lc_len rfl c.fr_len (da_cons (de_var 0) da_nil)) (de_var 1)) (de_and1 (de_call ((d_has_only c).mono (Nat.le_of_ble_eq_true rfl)) hr rfl c.g_has_only rs.exw (da_cons (de_var 0) (da_cons (de_call ((d_letters c).mono (Nat.le_of_ble_eq_true rfl)) hr rfl c.g_letters rs.exw (da_cons (de_var 2) da_nil)) da_nil))))))))
theorem k_is_row (c : C K mg) : DFk P w K mg base 6 (He.ga K "is_row") 2 ["width"] f_is_row := by
  obtain ⟨fd, F⟩ := c.def_ 26
  exact ⟨F.kp, fd, ["text", "rounds", "width"], def_ok F s_is_row (w_is_row c), kbn_of F (fun _ _ _ _ _ _ us ws h1 h2 => match us, ws, h1, h2 with | [_, _], [_], _, _ => rfl)⟩
theorem s_check_row : FnScope ["plan", "text"] ["plan", "text"] (defScope (top 52)) := ⟨rfl, rfl, rfl, by decide +kernel, rfl, by decide +kernel, by decide +kernel⟩
theorem w_check_row (c : C K mg) : Walk P w K mg base ["plan", "text"] "check_row" (defScope (top 52)) (He.ga K "check_row") 6 (defBody (top 52)) b_check_row := fun cdv A outer s H E G XX hr rs =>
  have nd := s_check_row.nd
  (dss_one (ds_if (dt_not (dt_val (de_callKw ((k_is_row c).mono (Nat.le_of_ble_eq_true rfl)) hr rfl c.g_is_row rs.exw (da_cons (de_var 1) (da_cons (de_prop (d_Plan_rounds c) (de_var 0) c.cl_Plan c.pr_Plan_rounds (hr.mono (Nat.le_of_ble_eq_true rfl))) da_nil)) (dk_cons (de_prop (d_Plan_width c) (de_var 0) c.cl_Plan c.pr_Plan_width (hr.mono (Nat.le_of_ble_eq_true rfl))) dk_nil)))) (dss_one (ds_raiseF rfl rs (x_BadRow c) (hr.mono (Nat.le_of_ble_eq_true rfl)) rfl c.g_BadRow (da_cons (de_var 1) da_nil))) dss_nil))
theorem d_check_row (c : C K mg) : DFn P w K mg base 7 (He.ga K "check_row") [] f_check_row := by
  obtain ⟨fd, F⟩ := c.def_ 42
  exact ⟨F.kp, fd, ["plan", "text"], [], [], def_ok F s_check_row (w_check_row c), F.bindsN fun _ _ _ _ _ _ us hl => match us, hl with | [_, _], _ => rfl, .nil, fun _ => .nil⟩
theorem s_opposite : FnScope ["parts"] ["parts"] (defScope (top 27)) := ⟨rfl, rfl, rfl, by decide +kernel, rfl, by decide +kernel, by decide +kernel⟩
theorem w_opposite (c : C K mg) : Walk P w K mg base ["parts"] "opposite" (defScope (top 27)) (He.ga K "opposite") 0 (defBody (top 27)) b_opposite := fun cdv A outer s H E G XX hr rs =>
  have nd := s_opposite.nd
  (dss_one (ds_ret (de_tup (da_cons (de_neg (de_ix (de_var 0) de_int)) (da_cons (de_ix (de_var 0) de_int) da_nil)))))
theorem d_opposite (c : C K mg) : DFn P w K mg base 1 (He.ga K "opposite") [] f_opposite := by
  obtain ⟨fd, F⟩ := c.def_ 17
  exact ⟨F.kp, fd, ["parts"], [], [], def_ok F s_opposite (w_opposite c), F.bindsN fun _ _ _ _ _ _ us hl => match us, hl with | [_], _ => rfl, .nil, fun _ => .nil⟩
theorem s_sub : FnScope ["left", "right"] ["left", "right"] (defScope (top 28)) := ⟨rfl, rfl, rfl, by decide +kernel, rfl, by decide +kernel, by decide +kernel⟩
theorem w_sub (c : C K mg) : Walk P w K mg base ["left", "right"] "sub" (defScope (top 28)) (He.ga K "sub") 3 (defBody (top 28)) b_sub := fun cdv A outer s H E G XX hr rs =>
  have nd := s_sub.nd
  (dss_one (ds_ret (de_call ((d_sum_of_two c).mono (Nat.le_of_ble_eq_true rfl)) hr rfl c.g_sum_of_two rs.exw (da_cons (de_call ((d_fraction c).mono (Nat.le_of_ble_eq_true rfl)) hr rfl c.g_fraction rs.exw (da_cons (de_var 0) da_nil)) (da_cons (de_call ((d_opposite c).mono (Nat.le_of_ble_eq_true rfl)) hr rfl c.g_opposite rs.exw (da_cons (de_call ((d_fraction c).mono (Nat.le_of_ble_eq_true rfl)) hr rfl c.g_fraction rs.exw (da_cons (de_var 1) da_nil)) da_nil)) da_nil)))))
theorem d_sub (c : C K mg) : DFn P w K mg base 4 (He.ga K "sub") [] f_sub := by
  obtain ⟨fd, F⟩ := c.def_ 18
  exact ⟨F.kp, fd, ["left", "right"], [], [], def_ok F s_sub (w_sub c), F.bindsN fun _ _ _ _ _ _ us hl => match us, hl with | [_, _], _ => rfl, .nil, fun _ => .nil⟩
theorem s_shares_on : FnScope ["plan", "text", "number", "outcome"] ["plan", "text"] (defScope (top 53)) := ⟨rfl, rfl, rfl, by decide +kernel, rfl, by decide +kernel, by decide +kernel⟩
theorem w_shares_on (c : C K mg) : Walk P w K mg base ["plan", "text", "number", "outcome"] "shares_on" (defScope (top 53)) (He.ga K "shares_on") 3 (defBody (top 53)) b_shares_on := fun cdv A outer s H E G XX hr rs =>
  have nd := s_shares_on.nd
  (dss_one (ds_ret (de_lc false [("number", 2), ("outcome", 3)] rfl nd (di_enumS rfl c.fr_enumerate (da_cons (de_var 1) da_nil)) (dgw_tup rfl (dgws_cons (dgw_name (i := 2) nd) (dgws_cons (dgw_name (i := 3) nd) dgws_nil))) dts_nil (fun s H C cl fp => (de_ix (de_callO ((d_Plan___call__ c).mono (Nat.le_of_ble_eq_true rfl)) c.co_Plan hr exw0 (de_var 0) (da_cons (de_slice false (de_var 1) do_none (do_some (de_var 2))) da_nil)) (de_callTy callx_int lc_int rfl c.fr_int (da_cons (de_var 3) da_nil)))) (ok := rfl))))
theorem d_shares_on (c : C K mg) : DFn P w K mg base 4 (He.ga K "shares_on") [] f_shares_on := by
  obtain ⟨fd, F⟩ := c.def_ 43
  exact ⟨F.kp, fd, ["plan", "text"], [], [], def_ok F s_shares_on (w_shares_on c), F.bindsN fun _ _ _ _ _ _ us hl => match us, hl with | [_, _], _ => rfl, .nil, fun _ => .nil⟩
theorem s_miss_steps : FnScope ["plan", "row", "share"] ["plan", "row"] (defScope (top 55)) := ⟨rfl, rfl, rfl, by decide +kernel, rfl, by decide +kernel, by decide +kernel⟩
theorem w_miss_steps (c : C K mg) : Walk P w K mg base ["plan", "row", "share"] "miss_steps" (defScope (top 55)) (He.ga K "miss_steps") 7 (defBody (top 55)) b_miss_steps := fun cdv A outer s H E G XX hr rs =>
  have nd := s_miss_steps.nd
  (dss_cons (ds_expr (de_call ((d_check_row c).mono (Nat.le_of_ble_eq_true rfl)) hr rfl c.g_check_row rs.exw (da_cons (de_var 0) (da_cons (de_var 1) da_nil))))
    (dss_one (ds_ret (de_lc false [("share", 2)] rfl nd (di_seq (de_call ((d_shares_on c).mono (Nat.le_of_ble_eq_true rfl)) hr rfl c.g_shares_on rs.exw (da_cons (de_var 0) (da_cons (de_var 1) da_nil)))) (dgw_name (i := 2) nd) dts_nil (fun s H C cl fp => (de_call ((d_sub c).mono (Nat.le_of_ble_eq_true rfl)) hr rfl c.g_sub exw0 (da_cons de_int (da_cons (de_var 2) da_nil)))) (ok := rfl)))))
theorem d_miss_steps (c : C K mg) : DFn P w K mg base 8 (He.ga K "miss_steps") [] f_miss_steps := by
  obtain ⟨fd, F⟩ := c.def_ 45
  exact ⟨F.kp, fd, ["plan", "row"], [], [], def_ok F s_miss_steps (w_miss_steps c), F.bindsN fun _ _ _ _ _ _ us hl => match us, hl with | [_, _], _ => rfl, .nil, fun _ => .nil⟩
theorem s_stretch_misses : FnScope ["plan", "row", "lengths", "steps", "sums", "start", "length"] ["plan", "row", "lengths"] (defScope (top 61)) := ⟨rfl, rfl, rfl, by decide +kernel, rfl, by decide +kernel, by decide +kernel⟩
theorem w_stretch_misses (c : C K mg) : Walk P w K mg base ["plan", "row", "lengths", "steps", "sums", "start", "length"] "stretch_misses" (defScope (top 61)) (He.ga K "stretch_misses") 8 (defBody (top 61)) b_stretch_misses := fun cdv A outer s H E G XX hr rs =>
  have nd := s_stretch_misses.nd
  (dss_cons (ds_set (i := 3) nd (de_call ((d_miss_steps c).mono (Nat.le_of_ble_eq_true rfl)) hr rfl c.g_miss_steps rs.exw (da_cons (de_var 0) (da_cons (de_var 1) da_nil))))
    (dss_cons (ds_expr (de_call ((d_check_lengths c).mono (Nat.le_of_ble_eq_true rfl)) hr rfl c.g_check_lengths rs.exw (da_cons (de_var 2) (da_cons (de_prop (d_Plan_rounds c) (de_var 0) c.cl_Plan c.pr_Plan_rounds (hr.mono (Nat.le_of_ble_eq_true rfl))) da_nil))))
    (dss_cons (ds_set (i := 4) nd (de_lst true da_nil))
    (dss_cons (ds_set (i := 5) nd de_int)
    (dss_cons (ds_for (passes_of rfl) rfl (di_seq (de_var 2)) (dg_name (i := 6) nd) (dss_cons (ds_expr (de_bm PySem.F.plainAttrs_list PySem.F.slot_list_append (by rfl) mt_append lm_append (de_var 4) (da_cons (de_call ((d_total c).mono (Nat.le_of_ble_eq_true rfl)) hr rfl c.g_total rs.exw (da_cons (de_slice false (de_var 3) (do_some (de_var 5)) (do_some (de_op opx_add (lrx_add false) (de_var 5) (de_var 6)))) da_nil)) da_nil)))
    (dss_one (ds_set (i := 5) nd (de_op opx_add (lrx_add false) (de_var 5) (de_var 6))))))
    (dss_one (ds_ret (de_var 4))))))))
theorem d_stretch_misses (c : C K mg) : DFn P w K mg base 9 (He.ga K "stretch_misses") [] f_stretch_misses := by
  obtain ⟨fd, F⟩ := c.def_ 48
  exact ⟨F.kp, fd, ["plan", "row", "lengths"], [], [], def_ok F s_stretch_misses (w_stretch_misses c), F.bindsN fun _ _ _ _ _ _ us hl => match us, hl with | [_, _, _], _ => rfl, .nil, fun _ => .nil⟩
theorem s_law_plus : FnScope ["_law_left", "_law_right"] ["_law_left", "_law_right"] (defScope (top 72)) := ⟨rfl, rfl, rfl, by decide +kernel, rfl, by decide +kernel, by decide +kernel⟩
theorem w_law_plus (c : C K mg) : Walk P w K mg base ["_law_left", "_law_right"] "_law_plus" (defScope (top 72)) (He.ga K "_law_plus") 2 (defBody (top 72)) b_law_plus := fun cdv A outer s H E G XX hr rs =>
  have nd := s_law_plus.nd
  (dss_one (ds_ret (de_call ((d_law_low c).mono (Nat.le_of_ble_eq_true rfl)) hr rfl c.g__law_low rs.exw (da_cons (de_op opx_add (lrx_add false) (de_op opx_mul (lrx_mul false) (de_ix (de_var 0) de_int) (de_ix (de_var 1) de_int)) (de_op opx_mul (lrx_mul false) (de_ix (de_var 1) de_int) (de_ix (de_var 0) de_int))) (da_cons (de_op opx_mul (lrx_mul false) (de_ix (de_var 0) de_int) (de_ix (de_var 1) de_int)) da_nil)))))
theorem d_law_plus (c : C K mg) : DFn P w K mg base 3 (He.ga K "_law_plus") [] f_law_plus := by
  obtain ⟨fd, F⟩ := c.def_ 58
  exact ⟨F.kp, fd, ["_law_left", "_law_right"], [], [], def_ok F s_law_plus (w_law_plus c), F.bindsN fun _ _ _ _ _ _ us hl => match us, hl with | [_, _], _ => rfl, .nil, fun _ => .nil⟩
theorem s_law_minus : FnScope ["_law_left", "_law_right"] ["_law_left", "_law_right"] (defScope (top 73)) := ⟨rfl, rfl, rfl, by decide +kernel, rfl, by decide +kernel, by decide +kernel⟩
theorem w_law_minus (c : C K mg) : Walk P w K mg base ["_law_left", "_law_right"] "_law_minus" (defScope (top 73)) (He.ga K "_law_minus") 2 (defBody (top 73)) b_law_minus := fun cdv A outer s H E G XX hr rs =>
  have nd := s_law_minus.nd
  (dss_one (ds_ret (de_call ((d_law_low c).mono (Nat.le_of_ble_eq_true rfl)) hr rfl c.g__law_low rs.exw (da_cons (de_op op_sub lrx_sub (de_op opx_mul (lrx_mul false) (de_ix (de_var 0) de_int) (de_ix (de_var 1) de_int)) (de_op opx_mul (lrx_mul false) (de_ix (de_var 1) de_int) (de_ix (de_var 0) de_int))) (da_cons (de_op opx_mul (lrx_mul false) (de_ix (de_var 0) de_int) (de_ix (de_var 1) de_int)) da_nil)))))
theorem d_law_minus (c : C K mg) : DFn P w K mg base 3 (He.ga K "_law_minus") [] f_law_minus := by
  obtain ⟨fd, F⟩ := c.def_ 59
  exact ⟨F.kp, fd, ["_law_left", "_law_right"], [], [], def_ok F s_law_minus (w_law_minus c), F.bindsN fun _ _ _ _ _ _ us hl => match us, hl with | [_, _], _ => rfl, .nil, fun _ => .nil⟩
theorem s_law_misses_on : FnScope ["_law_width", "_law_shares", "_law_text", "_law_found", "_law_at", "_law_sign"] ["_law_width", "_law_shares", "_law_text"] (defScope (top 87)) := ⟨rfl, rfl, rfl, by decide +kernel, rfl, by decide +kernel, by decide +kernel⟩
theorem w_law_misses_on (c : C K mg) : Walk P w K mg base ["_law_width", "_law_shares", "_law_text", "_law_found", "_law_at", "_law_sign"] "_law_misses_on" (defScope (top 87)) (He.ga K "_law_misses_on") 3 (defBody (top 87)) b_law_misses_on := fun cdv A outer s H E G XX hr rs =>
  have nd := s_law_misses_on.nd
  (dss_cons (ds_set (i := 3) nd (de_tup (da_cons de_int (da_cons de_int da_nil))))
    (dss_cons (ds_set (i := 4) nd de_int)
    (dss_cons (ds_for (passes_of rfl) rfl (di_seq (de_var 2)) (dg_name (i := 5) nd) (dss_cons (ds_set (i := 3) nd (de_call ((d_law_plus c).mono (Nat.le_of_ble_eq_true rfl)) hr rfl c.g__law_plus rs.exw (da_cons (de_var 3) (da_cons (de_call ((d_law_minus c).mono (Nat.le_of_ble_eq_true rfl)) hr rfl c.g__law_minus rs.exw (da_cons (de_tup (da_cons de_int (da_cons de_int da_nil))) (da_cons (de_ix (de_ix (de_var 1) (de_var 4)) (de_callTy callx_int lc_int rfl c.fr_int (da_cons (de_var 5) da_nil))) da_nil))) da_nil))))
    (dss_one (ds_set (i := 4) nd (de_op opx_add (lrx_add false) (de_op opx_add (lrx_add false) (de_op opx_mul (lrx_mul false) (de_var 4) (de_var 0)) de_int) (de_callTy callx_int lc_int rfl c.fr_int (da_cons (de_var 5) da_nil)))))))
    (dss_one (ds_ret (de_var 3))))))
theorem d_law_misses_on (c : C K mg) : DFn P w K mg base 4 (He.ga K "_law_misses_on") [] f_law_misses_on := by
  obtain ⟨fd, F⟩ := c.def_ 73
  exact ⟨F.kp, fd, ["_law_width", "_law_shares", "_law_text"], [], [], def_ok F s_law_misses_on (w_law_misses_on c), F.bindsN fun _ _ _ _ _ _ us hl => match us, hl with | [_, _, _], _ => rfl, .nil, fun _ => .nil⟩
theorem s_check_beginning : FnScope ["plan", "text"] ["plan", "text"] (defScope (top 46)) := ⟨rfl, rfl, rfl, by decide +kernel, rfl, by decide +kernel, by decide +kernel⟩
theorem w_check_beginning (c : C K mg) : Walk P w K mg base ["plan", "text"] "check_beginning" (defScope (top 46)) (He.ga K "check_beginning") 6 (defBody (top 46)) b_check_beginning := fun cdv A outer s H E G XX hr rs =>
  have nd := s_check_beginning.nd
  (dss_one (ds_if (dt_w (dw_or (dt_cmp op_gt (lr_cmpI _) (de_callB call_len lc_len rfl c.fr_len (da_cons (de_var 1) da_nil)) (de_prop (d_Plan_rounds c) (de_var 0) c.cl_Plan c.pr_Plan_rounds (hr.mono (Nat.le_of_ble_eq_true rfl)))) (dw_or1 (dt_not (dt_val (de_callKw ((k_is_row c).mono (Nat.le_of_ble_eq_true rfl)) hr rfl c.g_is_row rs.exw (da_cons (de_var 1) (da_cons (de_callB call_len lc_len rfl c.fr_len (da_cons (de_var 1) da_nil)) da_nil)) (dk_cons (de_prop (d_Plan_width c) (de_var 0) c.cl_Plan c.pr_Plan_width (hr.mono (Nat.le_of_ble_eq_true rfl))) dk_nil))))))) (dss_one (ds_raiseF rfl rs (x_BadRow c) (hr.mono (Nat.le_of_ble_eq_true rfl)) rfl c.g_BadRow (da_cons (de_var 1) da_nil))) dss_nil))
theorem d_check_beginning (c : C K mg) : DFn P w K mg base 7 (He.ga K "check_beginning") [] f_check_beginning := by
  obtain ⟨fd, F⟩ := c.def_ 29
  exact ⟨F.kp, fd, ["plan", "text"], [], [], def_ok F s_check_beginning (w_check_beginning c), F.bindsN fun _ _ _ _ _ _ us hl => match us, hl with | [_, _], _ => rfl, .nil, fun _ => .nil⟩
theorem s_row_misses : FnScope ["plan", "beginning", "share"] ["plan", "beginning"] (defScope (top 54)) := ⟨rfl, rfl, rfl, by decide +kernel, rfl, by decide +kernel, by decide +kernel⟩
theorem w_row_misses (c : C K mg) : Walk P w K mg base ["plan", "beginning", "share"] "row_misses" (defScope (top 54)) (He.ga K "row_misses") 7 (defBody (top 54)) b_row_misses := fun cdv A outer s H E G XX hr rs =>
  have nd := s_row_misses.nd
  (dss_cons (ds_expr (de_call ((d_check_beginning c).mono (Nat.le_of_ble_eq_true rfl)) hr rfl c.g_check_beginning rs.exw (da_cons (de_var 0) (da_cons (de_var 1) da_nil))))
    (dss_one (ds_ret (de_call ((d_total c).mono (Nat.le_of_ble_eq_true rfl)) hr rfl c.g_total rs.exw (da_cons (de_lc false [("share", 2)] rfl nd (di_seq (de_call ((d_shares_on c).mono (Nat.le_of_ble_eq_true rfl)) hr rfl c.g_shares_on rs.exw (da_cons (de_var 0) (da_cons (de_var 1) da_nil)))) (dgw_name (i := 2) nd) dts_nil (fun s H C cl fp => (de_call ((d_sub c).mono (Nat.le_of_ble_eq_true rfl)) hr rfl c.g_sub exw0 (da_cons de_int (da_cons (de_var 2) da_nil)))) (ok := rfl)) da_nil)))))
theorem d_row_misses (c : C K mg) : DFn P w K mg base 8 (He.ga K "row_misses") [] f_row_misses := by
  obtain ⟨fd, F⟩ := c.def_ 44
  exact ⟨F.kp, fd, ["plan", "beginning"], [], [], def_ok F s_row_misses (w_row_misses c), F.bindsN fun _ _ _ _ _ _ us hl => match us, hl with | [_, _], _ => rfl, .nil, fun _ => .nil⟩
theorem s_law_sum : FnScope ["_law_values", "_law_found", "_law_value"] ["_law_values"] (defScope (top 74)) := ⟨rfl, rfl, rfl, by decide +kernel, rfl, by decide +kernel, by decide +kernel⟩
theorem w_law_sum (c : C K mg) : Walk P w K mg base ["_law_values", "_law_found", "_law_value"] "_law_sum" (defScope (top 74)) (He.ga K "_law_sum") 3 (defBody (top 74)) b_law_sum := fun cdv A outer s H E G XX hr rs =>
  have nd := s_law_sum.nd
  (dss_cons (ds_set (i := 1) nd (de_tup (da_cons de_int (da_cons de_int da_nil))))
    (dss_cons (ds_for (passes_of rfl) rfl (di_seq (de_var 0)) (dg_name (i := 2) nd) (dss_one (ds_set (i := 1) nd (de_call ((d_law_plus c).mono (Nat.le_of_ble_eq_true rfl)) hr rfl c.g__law_plus rs.exw (da_cons (de_var 1) (da_cons (de_var 2) da_nil))))))
    (dss_one (ds_ret (de_var 1)))))
theorem d_law_sum (c : C K mg) : DFn P w K mg base 4 (He.ga K "_law_sum") [] f_law_sum := by
  obtain ⟨fd, F⟩ := c.def_ 60
  exact ⟨F.kp, fd, ["_law_values"], [], [], def_ok F s_law_sum (w_law_sum c), F.bindsN fun _ _ _ _ _ _ us hl => match us, hl with | [_], _ => rfl, .nil, fun _ => .nil⟩
theorem s_law_on_row : FnScope ["_law_width", "_law_shares", "_law_plan", "_law_new", "_law_row", "_law_lengths_here", "_law_handed", "_law_cut_here", "_law_alone", "_law_told", "_law_part"] ["_law_width", "_law_shares", "_law_plan", "_law_new", "_law_row", "_law_lengths_here"] (defScope (top 100)) := ⟨rfl, rfl, rfl, by decide +kernel, rfl, by decide +kernel, by decide +kernel⟩
theorem w_law_on_row (c : C K mg) : Walk P w K mg base ["_law_width", "_law_shares", "_law_plan", "_law_new", "_law_row", "_law_lengths_here", "_law_handed", "_law_cut_here", "_law_alone", "_law_told", "_law_part"] "_law_on_row" (defScope (top 100)) (He.ga K "_law_on_row") 9 (defBody (top 100)) b_law_on_row := fun cdv A outer s H E G XX hr rs =>
  have nd := s_law_on_row.nd
  (dss_cons (ds_set (i := 6) nd (de_callTy call_list_of (lc_list false) rfl c.fr_list (da_cons (de_var 5) da_nil)))
    (dss_cons (ds_set (i := 7) nd (de_call ((d_law_cut c).mono (Nat.le_of_ble_eq_true rfl)) hr rfl c.g__law_cut rs.exw (da_cons (de_var 4) (da_cons (de_var 5) da_nil))))
    (dss_cons (ds_setLc (i := 8) (y := "_law_alone") false [("_law_part", 10)] rfl nd (di_seq (de_var 7)) (dgw_name (i := 10) nd) dts_nil (fun s H C cl fp => (de_call ((d_law_misses_on c).mono (Nat.le_of_ble_eq_true rfl)) hr rfl c.g__law_misses_on exw0 (da_cons (de_var 0) (da_cons (de_var 1) (da_cons (de_var 10) da_nil))))) (ok := rfl))
    (dss_cons (ds_set (i := 9) nd (de_call ((d_stretch_misses c).mono (Nat.le_of_ble_eq_true rfl)) hr rfl c.g_stretch_misses rs.exw (da_cons (de_var 3) (da_cons (de_var 4) (da_cons (de_var 6) da_nil)))))
    (dss_cons (ds_if (dt_w (dw_or (dt_not (dt_val (de_call ((d_law_same c 5).mono (Nat.le_of_ble_eq_true rfl)) hr rfl c.g__law_same rs.exw (da_cons (de_var 9) (da_cons (de_var 8) da_nil))))) (dw_or1 (dt_not (dt_val (de_call ((d_law_same c 5).mono (Nat.le_of_ble_eq_true rfl)) hr rfl c.g__law_same rs.exw (da_cons (de_lc false [("_law_part", 10)] rfl nd (di_seq (de_var 7)) (dgw_name (i := 10) nd) dts_nil (fun s H C cl fp => (de_call ((d_row_misses c).mono (Nat.le_of_ble_eq_true rfl)) hr rfl c.g_row_misses exw0 (da_cons (de_var 2) (da_cons (de_var 10) da_nil)))) (ok := rfl)) (da_cons (de_var 8) da_nil)))))))) (dss_one (ds_ret de_bl)) dss_nil)
    (dss_cons (ds_expr (de_bm PySem.F.plainAttrs_list PySem.F.slot_list_append (by rfl) mt_append lm_append (de_var 9) (da_cons de_non da_nil)))
    (dss_cons (ds_if (dt_w (dw_or (dt_not (dt_val (de_call ((d_law_same c 5).mono (Nat.le_of_ble_eq_true rfl)) hr rfl c.g__law_same rs.exw (da_cons (de_var 6) (da_cons (de_var 5) da_nil))))) (dw_or1 (dt_not (dt_val (de_call ((d_law_same c 5).mono (Nat.le_of_ble_eq_true rfl)) hr rfl c.g__law_same rs.exw (da_cons (de_call ((d_stretch_misses c).mono (Nat.le_of_ble_eq_true rfl)) hr rfl c.g_stretch_misses rs.exw (da_cons (de_var 3) (da_cons (de_var 4) (da_cons (de_callTy call_tuple_of lc_tuple rfl c.fr_tuple (da_cons (de_var 5) da_nil)) da_nil)))) (da_cons (de_var 8) da_nil)))))))) (dss_one (ds_ret de_bl)) dss_nil)
    (dss_one (ds_ret (de_call ((d_law_same c 5).mono (Nat.le_of_ble_eq_true rfl)) hr rfl c.g__law_same rs.exw (da_cons (de_call ((d_row_misses c).mono (Nat.le_of_ble_eq_true rfl)) hr rfl c.g_row_misses rs.exw (da_cons (de_var 3) (da_cons (de_var 4) da_nil))) (da_cons (de_call ((d_law_sum c).mono (Nat.le_of_ble_eq_true rfl)) hr rfl c.g__law_sum rs.exw (da_cons (de_var 8) da_nil)) da_nil))))))))))))
theorem d_law_on_row (c : C K mg) : DFn P w K mg base 10 (He.ga K "_law_on_row") [] f_law_on_row := by
  obtain ⟨fd, F⟩ := c.def_ 86
  exact ⟨F.kp, fd, ["_law_width", "_law_shares", "_law_plan", "_law_new", "_law_row", "_law_lengths_here"], [], [], def_ok F s_law_on_row (w_law_on_row c), F.bindsN fun _ _ _ _ _ _ us hl => match us, hl with | [_, _, _, _, _, _], _ => rfl, .nil, fun _ => .nil⟩
theorem s_law_tail : FnScope ["_law_text", "_law_lengths_here", "_law_end", "_law_size"] ["_law_text", "_law_lengths_here"] (defScope (top 98)) := ⟨rfl, rfl, rfl, by decide +kernel, rfl, by decide +kernel, by decide +kernel⟩
theorem w_law_tail (c : C K mg) : Walk P w K mg base ["_law_text", "_law_lengths_here", "_law_end", "_law_size"] "_law_tail" (defScope (top 98)) (He.ga K "_law_tail") 0 (defBody (top 98)) b_law_tail := fun cdv A outer s H E G XX hr rs =>
  have nd := s_law_tail.nd
  (dss_cons (ds_set (i := 2) nd de_int)
    (dss_cons (ds_for (passes_of rfl) rfl (di_seq (de_var 1)) (dg_name (i := 3) nd) (dss_cons (ds_if (dt_cmp op_gt (lr_cmpI _) (de_op opx_add (lrx_add false) (de_var 2) (de_var 3)) (de_callB call_len lc_len rfl c.fr_len (da_cons (de_var 0) da_nil))) (dss_one (ds_ret (de_slice false (de_var 0) (do_some (de_var 2)) do_none))) dss_nil)
    (dss_one (ds_set (i := 2) nd (de_op opx_add (lrx_add false) (de_var 2) (de_var 3))))))
    (dss_one (ds_ret (de_slice false (de_var 0) (do_some (de_var 2)) do_none)))))
theorem d_law_tail (c : C K mg) : DFn P w K mg base 1 (He.ga K "_law_tail") [] f_law_tail := by
  obtain ⟨fd, F⟩ := c.def_ 84
  exact ⟨F.kp, fd, ["_law_text", "_law_lengths_here"], [], [], def_ok F s_law_tail (w_law_tail c), F.bindsN fun _ _ _ _ _ _ us hl => match us, hl with | [_, _], _ => rfl, .nil, fun _ => .nil⟩
theorem s_law_one : FnScope ["_law_store_here", "_law_width", "_law_rounds_here", "_law_shares", "_law_plan", "_law_lengths_here", "_law_handed", "_law_new", "_law_due", "_law_told", "_law_k", "_law_row", "_law_text"] ["_law_store_here", "_law_width", "_law_rounds_here", "_law_shares", "_law_plan", "_law_lengths_here"] (defScope (top 99)) := ⟨rfl, rfl, rfl, by decide +kernel, rfl, by decide +kernel, by decide +kernel⟩
theorem w_law_one (c : C K mg) : Walk P w K mg base ["_law_store_here", "_law_width", "_law_rounds_here", "_law_shares", "_law_plan", "_law_lengths_here", "_law_handed", "_law_new", "_law_due", "_law_told", "_law_k", "_law_row", "_law_text"] "_law_one" (defScope (top 99)) (He.ga K "_law_one") 10 (defBody (top 99)) b_law_one := fun cdv A outer s H E G XX hr rs =>
  have nd := s_law_one.nd
  (dss_cons (ds_set (i := 6) nd (de_callTy call_list_of (lc_list true) rfl c.fr_list (da_cons (de_var 5) da_nil)))
    (dss_cons (ds_set (i := 7) nd (de_call ((d_anew c).mono (Nat.le_of_ble_eq_true rfl)) hr rfl c.g_anew rs.exw (da_cons (de_var 4) (da_cons (de_var 6) da_nil))))
    (dss_cons (ds_if (dt_not (dt_val (de_call ((d_law_same c 5).mono (Nat.le_of_ble_eq_true rfl)) hr rfl c.g__law_same rs.exw (da_cons (de_var 6) (da_cons (de_var 5) da_nil))))) (dss_one (ds_ret de_bl)) dss_nil)
    (dss_cons (ds_expr (de_bm PySem.F.plainAttrs_list PySem.F.slot_list_append (by rfl) mt_append lm_append (de_var 6) (da_cons de_int da_nil)))
    (dss_cons (ds_setLc (i := 8) (y := "_law_due") false [("_law_text", 12)] rfl nd (di_seq (de_call ((d_law_inner c).mono (Nat.le_of_ble_eq_true rfl)) hr rfl c.g__law_inner rs.exw (da_cons (de_var 1) (da_cons (de_var 2) da_nil)))) (dgw_name (i := 12) nd) dts_nil (fun s H C cl fp => (de_ix (de_var 3) (de_call ((d_law_index c).mono (Nat.le_of_ble_eq_true rfl)) hr rfl c.g__law_index exw0 (da_cons (de_var 1) (da_cons (de_call ((d_law_tail c).mono (Nat.le_of_ble_eq_true rfl)) hr rfl c.g__law_tail exw0 (da_cons (de_var 12) (da_cons (de_var 5) da_nil))) da_nil))))) (ok := rfl))
    (dss_cons (ds_if (dt_w (dw_or (dt_not (dt_val (de_call ((d_law_is_plan c).mono (Nat.le_of_ble_eq_true rfl)) hr rfl c.g__law_is_plan rs.exw (da_cons (de_var 7) (da_cons (de_var 1) (da_cons (de_var 2) (da_cons (de_var 8) da_nil))))))) (dw_or1 (dt_not (dt_val (de_call ((d_law_is_plan c).mono (Nat.le_of_ble_eq_true rfl)) hr rfl c.g__law_is_plan rs.exw (da_cons (de_var 4) (da_cons (de_var 1) (da_cons (de_var 2) (da_cons (de_var 3) da_nil)))))))))) (dss_one (ds_ret de_bl)) dss_nil)
    (dss_cons (ds_set (i := 9) nd (de_prop (d_Plan_shares c) (de_var 7) c.cl_Plan c.pr_Plan_shares (hr.mono (Nat.le_of_ble_eq_true rfl))))
    (dss_cons (ds_expr (de_bm PySem.F.plainAttrs_list PySem.F.slot_list_append (by rfl) mt_append lm_append (de_var 9) (da_cons de_non da_nil)))
    (dss_cons (ds_for (passes_of rfl) rfl (di_range1 rfl c.fr_range (da_cons de_int da_nil)) (dg_name (i := 10) nd) (dss_cons (ds_set (i := 11) nd (de_call ((d_law_free c).mono (Nat.le_of_ble_eq_true rfl)) hr rfl c.g__law_free rs.exw (da_cons (de_var 0) (da_cons (de_slice false de_str do_none (do_some (de_var 1))) (da_cons (de_var 2) da_nil)))))
    (dss_one (ds_if (dt_not (dt_val (de_call ((d_law_on_row c).mono (Nat.le_of_ble_eq_true rfl)) hr rfl c.g__law_on_row rs.exw (da_cons (de_var 1) (da_cons (de_var 3) (da_cons (de_var 4) (da_cons (de_var 7) (da_cons (de_var 11) (da_cons (de_var 5) da_nil))))))))) (dss_one (ds_ret de_bl)) dss_nil))))
    (dss_one (ds_ret (de_and (de_call ((d_law_is_plan c).mono (Nat.le_of_ble_eq_true rfl)) hr rfl c.g__law_is_plan rs.exw (da_cons (de_var 7) (da_cons (de_var 1) (da_cons (de_var 2) (da_cons (de_var 8) da_nil))))) (de_and1 (de_call ((d_law_is_plan c).mono (Nat.le_of_ble_eq_true rfl)) hr rfl c.g__law_is_plan rs.exw (da_cons (de_call ((d_anew c).mono (Nat.le_of_ble_eq_true rfl)) hr rfl c.g_anew rs.exw (da_cons (de_var 4) (da_cons (de_callTy call_tuple_of lc_tuple rfl c.fr_tuple (da_cons (de_var 5) da_nil)) da_nil))) (da_cons (de_var 1) (da_cons (de_var 2) (da_cons (de_var 8) da_nil))))))))))))))))))
theorem d_law_one (c : C K mg) : DFn P w K mg base 11 (He.ga K "_law_one") [] f_law_one := by
  obtain ⟨fd, F⟩ := c.def_ 85
  exact ⟨F.kp, fd, ["_law_store_here", "_law_width", "_law_rounds_here", "_law_shares", "_law_plan", "_law_lengths_here"], [], [], def_ok F s_law_one (w_law_one c), F.bindsN fun _ _ _ _ _ _ us hl => match us, hl with | [_, _, _, _, _, _], _ => rfl, .nil, fun _ => .nil⟩
theorem s_law_no_row : FnScope ["_law_store_here", "_law_width", "_law_rounds_here", "_law_text", "_law_kind", "_law_at"] ["_law_store_here", "_law_width", "_law_rounds_here"] (defScope (top 95)) := ⟨rfl, rfl, rfl, by decide +kernel, rfl, by decide +kernel, by decide +kernel⟩
theorem w_law_no_row (c : C K mg) : Walk P w K mg base ["_law_store_here", "_law_width", "_law_rounds_here", "_law_text", "_law_kind", "_law_at"] "_law_no_row" (defScope (top 95)) (He.ga K "_law_no_row") 3 (defBody (top 95)) b_law_no_row := fun cdv A outer s H E G XX hr rs =>
  have nd := s_law_no_row.nd
  (dss_cons (ds_set (i := 3) nd (de_call ((d_law_free c).mono (Nat.le_of_ble_eq_true rfl)) hr rfl c.g__law_free rs.exw (da_cons (de_var 0) (da_cons (de_slice false de_str do_none (do_some (de_var 1))) (da_cons (de_var 2) da_nil)))))
    (dss_cons (ds_set (i := 4) nd (de_call ((d_law_take c).mono (Nat.le_of_ble_eq_true rfl)) hr rfl c.g__law_take rs.exw (da_cons (de_var 0) (da_cons de_int da_nil))))
    (dss_cons (ds_if (dt_cmp (opx_eq hr.units) lrx_eq (de_var 4) de_int) (dss_one (ds_ret (de_op opx_add (lrx_add false) (de_var 3) de_str))) dss_nil)
    (dss_cons (ds_if (dt_w (dw_and (dt_cmp (opx_eq hr.units) lrx_eq (de_var 4) de_int) (dw_and1 (dt_cmp op_gt (lr_cmpI _) (de_var 2) de_int)))) (dss_one (ds_ret (de_slice false (de_var 3) (do_some de_int) do_none))) dss_nil)
    (dss_cons (ds_set (i := 5) nd (de_call ((d_law_take c).mono (Nat.le_of_ble_eq_true rfl)) hr rfl c.g__law_take rs.exw (da_cons (de_var 0) (da_cons (de_op opx_add (lrx_add false) (de_var 2) de_int) da_nil))))
    (dss_one (ds_ret (de_op opx_add (lrx_add false) (de_op opx_add (lrx_add false) (de_slice false (de_var 3) do_none (do_some (de_var 5))) (de_ix (de_lst false (da_cons (de_callTy call_str_int lc_str rfl c.fr_str (da_cons (de_var 1) da_nil)) (da_cons de_str (da_cons de_str (da_cons de_str da_nil))))) (de_call ((d_law_take c).mono (Nat.le_of_ble_eq_true rfl)) hr rfl c.g__law_take rs.exw (da_cons (de_var 0) (da_cons de_int da_nil))))) (de_slice false (de_var 3) (do_some (de_op opx_add (lrx_add false) (de_var 5) de_int)) do_none)))))))))
theorem d_law_no_row (c : C K mg) : DFn P w K mg base 4 (He.ga K "_law_no_row") [] f_law_no_row := by
  obtain ⟨fd, F⟩ := c.def_ 81
  exact ⟨F.kp, fd, ["_law_store_here", "_law_width", "_law_rounds_here"], [], [], def_ok F s_law_no_row (w_law_no_row c), F.bindsN fun _ _ _ _ _ _ us hl => match us, hl with | [_, _, _], _ => rfl, .nil, fun _ => .nil⟩
theorem s_law_bad_count : FnScope ["_law_store_here", "_law_low_here", "_law_high", "_law_far", "_law_menu"] ["_law_store_here", "_law_low_here", "_law_high"] (defScope (top 77)) := ⟨rfl, rfl, rfl, by decide +kernel, rfl, by decide +kernel, by decide +kernel⟩
theorem w_law_bad_count (c : C K mg) : Walk P w K mg base ["_law_store_here", "_law_low_here", "_law_high", "_law_far", "_law_menu"] "_law_bad_count" (defScope (top 77)) (He.ga K "_law_bad_count") 2 (defBody (top 77)) b_law_bad_count := fun cdv A outer s H E G XX hr rs =>
  have nd := s_law_bad_count.nd
  (dss_cons (ds_set (i := 3) nd (de_call ((d_law_take c).mono (Nat.le_of_ble_eq_true rfl)) hr rfl c.g__law_take rs.exw (da_cons (de_var 0) (da_cons (de_op op_pow lrx_pow de_int de_int) da_nil))))
    (dss_cons (ds_set (i := 4) nd (de_lst false (da_cons (de_op op_sub lrx_sub (de_var 1) de_int) (da_cons (de_op opx_add (lrx_add false) (de_var 2) de_int) (da_cons de_bl (da_cons de_bl (da_cons (de_op op_sub lrx_sub (de_op op_sub lrx_sub (de_var 1) de_int) (de_var 3)) (da_cons (de_op opx_add (lrx_add false) (de_op opx_add (lrx_add false) (de_var 2) de_int) (de_var 3)) (da_cons (de_op op_sub lrx_sub (de_op op_pow lrx_pow de_int de_int) de_int) (da_cons (de_op op_sub lrx_sub de_int (de_op op_pow lrx_pow de_int de_int)) da_nil))))))))))
    (dss_one (ds_ret (de_ix (de_var 4) (de_call ((d_law_take c).mono (Nat.le_of_ble_eq_true rfl)) hr rfl c.g__law_take rs.exw (da_cons (de_var 0) (da_cons (de_callB call_len lc_len rfl c.fr_len (da_cons (de_var 4) da_nil)) da_nil))))))))
theorem d_law_bad_count (c : C K mg) : DFn P w K mg base 3 (He.ga K "_law_bad_count") [] f_law_bad_count := by
  obtain ⟨fd, F⟩ := c.def_ 63
  exact ⟨F.kp, fd, ["_law_store_here", "_law_low_here", "_law_high"], [], [], def_ok F s_law_bad_count (w_law_bad_count c), F.bindsN fun _ _ _ _ _ _ us hl => match us, hl with | [_, _, _], _ => rfl, .nil, fun _ => .nil⟩
theorem s_law_bad_lengths : FnScope ["_law_store_here", "_law_rounds_here", "_law_found", "_law_at", "_law_kind", "_law_bad", "_law_part"] ["_law_store_here", "_law_rounds_here"] (defScope (top 90)) := ⟨rfl, rfl, rfl, by decide +kernel, rfl, by decide +kernel, by decide +kernel⟩
theorem w_law_bad_lengths (c : C K mg) : Walk P w K mg base ["_law_store_here", "_law_rounds_here", "_law_found", "_law_at", "_law_kind", "_law_bad", "_law_part"] "_law_bad_lengths" (defScope (top 90)) (He.ga K "_law_bad_lengths") 4 (defBody (top 90)) b_law_bad_lengths := fun cdv A outer s H E G XX hr rs =>
  have nd := s_law_bad_lengths.nd
  (dss_cons (ds_set (i := 2) nd (de_call ((d_law_lengths c).mono (Nat.le_of_ble_eq_true rfl)) hr rfl c.g__law_lengths rs.exw (da_cons (de_var 0) (da_cons (de_var 1) da_nil))))
    (dss_cons (ds_set (i := 3) nd (de_call ((d_law_take c).mono (Nat.le_of_ble_eq_true rfl)) hr rfl c.g__law_take rs.exw (da_cons (de_var 0) (da_cons (de_op opx_add (lrx_add false) (de_callB call_len lc_len rfl c.fr_len (da_cons (de_var 2) da_nil)) de_int) da_nil))))
    (dss_cons (ds_if (dt_cmp (opx_eq hr.units) lrx_eq (de_call ((d_law_take c).mono (Nat.le_of_ble_eq_true rfl)) hr rfl c.g__law_take rs.exw (da_cons (de_var 0) (da_cons de_int da_nil))) de_int) (dss_cons (ds_set (i := 5) nd (de_call ((d_law_bad_count c).mono (Nat.le_of_ble_eq_true rfl)) hr rfl c.g__law_bad_count rs.exw (da_cons (de_var 0) (da_cons de_int (da_cons de_int da_nil)))))
    (dss_one (ds_ret (de_tup (da_cons (de_op opx_add (lrx_add false) (de_op opx_add (lrx_add false) (de_slice false (de_var 2) do_none (do_some (de_var 3))) (de_lst false (da_cons (de_var 5) da_nil))) (de_slice false (de_var 2) (do_some (de_var 3)) do_none)) (da_cons (de_tup (da_cons de_str (da_cons (de_var 5) (da_cons de_int (da_cons de_int da_nil))))) da_nil)))))) dss_nil)
    (dss_cons (ds_set (i := 4) nd (de_call ((d_law_take c).mono (Nat.le_of_ble_eq_true rfl)) hr rfl c.g__law_take rs.exw (da_cons (de_var 0) (da_cons de_int da_nil))))
    (dss_cons (ds_if (dt_w (dw_and (dt_cmp (opx_eq hr.units) lrx_eq (de_var 4) de_int) (dw_and1 (dt_cmp op_gt (lr_cmpI _) (de_var 1) de_int)))) (dss_one (ds_ret (de_tup (da_cons (de_lc false [("_law_part", 6)] rfl nd (di_seq (de_var 2)) (dgw_name (i := 6) nd) (dts_one fun s H C cl fp => (dt_cmp (opx_eq hr.units) lrx_eq (de_var 6) de_int)) (fun s H C cl fp => (de_var 6)) (ok := rfl)) (da_cons (de_tup (da_cons de_str da_nil)) da_nil))))) dss_nil)
    (dss_cons (ds_if (dt_w (dw_and (dt_cmp (opx_eq hr.units) lrx_eq (de_var 4) de_int) (dw_and1 (dt_cmp op_gt (lr_cmpI _) (de_var 1) de_int)))) (dss_one (ds_ret (de_tup (da_cons (de_call ((d_law_lengths c).mono (Nat.le_of_ble_eq_true rfl)) hr rfl c.g__law_lengths rs.exw (da_cons (de_var 0) (da_cons (de_call ((d_law_edge c).mono (Nat.le_of_ble_eq_true rfl)) hr rfl c.g__law_edge rs.exw (da_cons (de_var 0) (da_cons (de_var 1) da_nil))) da_nil))) (da_cons (de_tup (da_cons de_str da_nil)) da_nil))))) dss_nil)
    (dss_one (ds_ret (de_tup (da_cons (de_op opx_add (lrx_add false) (de_op opx_add (lrx_add false) (de_slice false (de_var 2) do_none (do_some (de_var 3))) (de_lst false (da_cons (de_op opx_add (lrx_add false) de_int (de_call ((d_law_take c).mono (Nat.le_of_ble_eq_true rfl)) hr rfl c.g__law_take rs.exw (da_cons (de_var 0) (da_cons de_int da_nil)))) da_nil))) (de_slice false (de_var 2) (do_some (de_var 3)) do_none)) (da_cons (de_tup (da_cons de_str da_nil)) da_nil)))))))))))
theorem d_law_bad_lengths (c : C K mg) : DFn P w K mg base 5 (He.ga K "_law_bad_lengths") [] f_law_bad_lengths := by
  obtain ⟨fd, F⟩ := c.def_ 76
  exact ⟨F.kp, fd, ["_law_store_here", "_law_rounds_here"], [], [], def_ok F s_law_bad_lengths (w_law_bad_lengths c), F.bindsN fun _ _ _ _ _ _ us hl => match us, hl with | [_, _], _ => rfl, .nil, fun _ => .nil⟩
theorem s_law_classes : FnScope ["_law_e", "_law_kin"] ["_law_e"] (defScope (top 91)) := ⟨rfl, rfl, rfl, by decide +kernel, rfl, by decide +kernel, by decide +kernel⟩
theorem we_law_classes (c : C K mg) {cn : Str} (hcn : cn ∈ Cs) : WalkE P w K mg base ["_law_e", "_law_kin"] "_law_classes" (defScope (top 91)) (He.ga K "_law_classes") 0 (defBody (top 91)) cn (b_law_classes cn) := fun cdv A outer s H E ⟨a, oe⟩ G fs hr hk =>
  have nd := s_law_classes.nd
  have hc := hk.hc
  (dss_cons (ds_set (i := 1) nd (de_lst false (da_cons (de_isE (C := "BadNumber") hk (de_var 0) rfl c.fr_isinstance rfl c.g_BadNumber (kitsB_ok (c.kits cn hcn) (by decide))) (da_cons (de_isE (C := "DivisionByZero") hk (de_var 0) rfl c.fr_isinstance rfl c.g_DivisionByZero (kitsB_ok (c.kits cn hcn) (by decide))) (da_cons (de_isE (C := "BadCount") hk (de_var 0) rfl c.fr_isinstance rfl c.g_BadCount (kitsB_ok (c.kits cn hcn) (by decide))) (da_cons (de_isE (C := "BadSize") hk (de_var 0) rfl c.fr_isinstance rfl c.g_BadSize (kitsB_ok (c.kits cn hcn) (by decide))) da_nil))))))
    (dss_cons (ds_set (i := 1) nd (de_op opx_add (lrx_add false) (de_var 1) (de_lst false (da_cons (de_isE (C := "BadName") hk (de_var 0) rfl c.fr_isinstance rfl c.g_BadName (kitsB_ok (c.kits cn hcn) (by decide))) (da_cons (de_isE (C := "BadText") hk (de_var 0) rfl c.fr_isinstance rfl c.g_BadText (kitsB_ok (c.kits cn hcn) (by decide))) (da_cons (de_isE (C := "BadRow") hk (de_var 0) rfl c.fr_isinstance rfl c.g_BadRow (kitsB_ok (c.kits cn hcn) (by decide))) (da_cons (de_isE (C := "BadShare") hk (de_var 0) rfl c.fr_isinstance rfl c.g_BadShare (kitsB_ok (c.kits cn hcn) (by decide))) da_nil)))))))
    (dss_cons (ds_set (i := 1) nd (de_op opx_add (lrx_add false) (de_var 1) (de_lst false (da_cons (de_isE (C := "BadWeight") hk (de_var 0) rfl c.fr_isinstance rfl c.g_BadWeight (kitsB_ok (c.kits cn hcn) (by decide))) (da_cons (de_isE (C := "Mismatch") hk (de_var 0) rfl c.fr_isinstance rfl c.g_Mismatch (kitsB_ok (c.kits cn hcn) (by decide))) (da_cons (de_isE (C := "NoHelper") hk (de_var 0) rfl c.fr_isinstance rfl c.g_NoHelper (kitsB_ok (c.kits cn hcn) (by decide))) (da_cons (de_isE (C := "NotExact") hk (de_var 0) rfl c.fr_isinstance rfl c.g_NotExact (kitsB_ok (c.kits cn hcn) (by decide))) da_nil)))))))
    (dss_cons (ds_set (i := 1) nd (de_op opx_add (lrx_add false) (de_var 1) (de_lst false (da_cons (de_isE (C := "Lacking") hk (de_var 0) rfl c.fr_isinstance rfl c.g_Lacking (kitsB_ok (c.kits cn hcn) (by decide))) (da_cons (de_isE (C := "GameOver") hk (de_var 0) rfl c.fr_isinstance rfl c.g_GameOver (kitsB_ok (c.kits cn hcn) (by decide))) (da_cons (de_isE (C := "NothingToTakeBack") hk (de_var 0) rfl c.fr_isinstance rfl c.g_NothingToTakeBack (kitsB_ok (c.kits cn hcn) (by decide))) da_nil))))))
    (dss_cons (ds_set (i := 1) nd (de_op opx_add (lrx_add false) (de_var 1) (de_lst false (da_cons (de_isE (C := "UnknownName") hk (de_var 0) rfl c.fr_isinstance rfl c.g_UnknownName (kitsB_ok (c.kits cn hcn) (by decide))) (da_cons (de_isE (C := "TakenName") hk (de_var 0) rfl c.fr_isinstance rfl c.g_TakenName (kitsB_ok (c.kits cn hcn) (by decide))) (da_cons (de_isE (C := "WrongKind") hk (de_var 0) rfl c.fr_isinstance rfl c.g_WrongKind (kitsB_ok (c.kits cn hcn) (by decide))) (da_cons (de_isE (C := "InUse") hk (de_var 0) rfl c.fr_isinstance rfl c.g_InUse (kitsB_ok (c.kits cn hcn) (by decide))) da_nil)))))))
    (dss_one (ds_ret (de_bm PySem.F.plainAttrs_list PySem.F.slot_list_count (by rfl) mt_cntB lm_cntB (de_var 1) (da_cons de_bl da_nil)))))))))
theorem e_law_classes (c : C K mg) {cn : Str} (hcn : cn ∈ Cs) : DFe P w K mg base 1 (He.ga K "_law_classes") 1 cn (f_law_classes cn) := by
  obtain ⟨fd, F⟩ := c.def_ 77
  exact def_okE (ps := ["_law_e"]) F s_law_classes (c.xcf cn hcn) (we_law_classes c hcn) (F.bindsN fun _ _ _ _ _ _ us hl => match us, hl with | [_], _ => rfl)
theorem s_law_denied : FnScope ["_law_deed", "_law_due", "_law_e"] ["_law_deed", "_law_due"] (defScope (top 92)) := ⟨rfl, rfl, rfl, by decide +kernel, rfl, by decide +kernel, by decide +kernel⟩
theorem ws_law_denied (c : C K mg) {k : Nat} (hlv : 6 ≤ k) (cdv : Value) (A : Around) (outer : List Env) (s : Shared) (H : Hp) (E : XK) (a : Addr) (oe : Obj) (pn : List (Addr × Obj)) (cn : Str) (fs : List (Str × Dt)) (G : Lk) (hcn : cn ∈ Cs)
    (hr0 : L2H.RoomH k ((cxOf (L2N.CX P w) P w K mg base ["_law_deed", "_law_due", "_law_e"] "_law_denied" (defScope (top 92)) (He.ga K "_law_denied") cdv A outer s H E).suite a ((a, oe) :: pn)).A) (hk : HotK ((cxOf (L2N.CX P w) P w K mg base ["_law_deed", "_law_due", "_law_e"] "_law_denied" (defScope (top 92)) (He.ga K "_law_denied") cdv A outer s H E).suite a ((a, oe) :: pn)) G (a, oe) cn fs) : DSs ((cxOf (L2N.CX P w) P w K mg base ["_law_deed", "_law_due", "_law_e"] "_law_denied" (defScope (top 92)) (He.ga K "_law_denied") cdv A outer s H E).suite a ((a, oe) :: pn)) G (EL.suiteOf (defBody (top 92))) (bs_law_denied a cn fs) :=
  have nd := s_law_denied.nd
  have hc := hk.hc
  have hr := hr0.mono hlv
  (dss_cons (ds_if (dt_w (dw_or (dt_cmp (opx_ne (roomHu hr)) lrx_ne (de_callE (c := cn) hk ((e_law_classes c hcn).mono (Nat.le_of_ble_eq_true rfl)) hr rfl c.g__law_classes (da_cons (de_var 2) da_nil) (fun h => h.1)) de_int) (dw_or1 (dt_not (dt_val (de_isT (T := "ValueError") hk (de_var 2) rfl c.fr_isinstance rfl c.fr_ValueError (kitT_ok (c.kitv cn hcn)))))))) (dss_one (ds_ret de_bl)) dss_nil)
    (dss_cons (ds_if (dt_val (de_isE (C := "BadCount") hk (de_var 2) rfl c.fr_isinstance rfl c.g_BadCount (kitsB_ok (c.kits cn hcn) (by decide)))) (dss_one (ds_ret (de_callH ((h_law_same c 5).mono (Nat.le_of_ble_eq_true rfl)) hr hc rfl c.g__law_same (da_cons (de_tup (da_cons de_str (da_cons (de_xf (f := "found") hk (de_var 2) (c.xno cn hcn "found" (by decide))) (da_cons (de_xf (f := "low") hk (de_var 2) (c.xno cn hcn "low" (by decide))) (da_cons (de_xf (f := "high") hk (de_var 2) (c.xno cn hcn "high" (by decide))) da_nil))))) (da_cons (de_var 1) da_nil))))) dss_nil)
    (dss_cons (ds_if (dt_val (de_isE (C := "BadRow") hk (de_var 2) rfl c.fr_isinstance rfl c.g_BadRow (kitsB_ok (c.kits cn hcn) (by decide)))) (dss_one (ds_ret (de_callH ((h_law_same c 5).mono (Nat.le_of_ble_eq_true rfl)) hr hc rfl c.g__law_same (da_cons (de_tup (da_cons de_str (da_cons (de_xf (f := "found") hk (de_var 2) (c.xno cn hcn "found" (by decide))) da_nil))) (da_cons (de_var 1) da_nil))))) dss_nil)
    (dss_one (ds_ret (de_and (de_isE (C := "Mismatch") hk (de_var 2) rfl c.fr_isinstance rfl c.g_Mismatch (kitsB_ok (c.kits cn hcn) (by decide))) (de_and1 (de_cmp (opx_eq (roomHu hr)) lrx_eq (de_var 1) (de_tup (da_cons de_str da_nil))))))))))
theorem den_ok {X : Cx} (c : C X.K X.mg) (tb : TBs X.K X.mg X.base) {k kb : Nat} {f : Addr} {sc : Scope} {G : Lk} {tbd : DX → DTE} {td : DTE} {params : Arguments} {body dueE : Expr} {p lpos pos : Pos}
    (hT : ∀ F Hb, G.g F Hb → F.tb = lamT X.K) (hr : Room (k + 1) X.A) (hkk : 6 ≤ k ∧ kb + 1 ≤ k) (TB : LamX.TabB X.base X.mg (EL.ctA X.K f).1 (EL.ctA X.K f).2) (hcode : X.env.code = .ref (EL.ctA X.K f).1)
    {K : PySem.W.Frag} (hK : X.K = K) {qn : Str} (hqn : X.env.qual = qn) (hu : ((EL.ctA K f).2, qn ++ "<lambda>") ∈ lamT K ∧ ∀ q ∈ lamT K, q.1 = (EL.ctA K f).2 → q.2 = qn ++ "<lambda>") (L : LamX.LamS X.env.scope sc) (hdef : defaultsOf params X.env = ([], []))
    (hbind : ∀ (q : Str) (cl : List (Str × Addr)) (pm cv ctv : Value), bindArgs (PySem.W.kla_fn "<lambda>" q params body sc cl pm cv ctv) ⟨[], []⟩ = pure []) (hdue : DE X G dueE td)
    (hbody : ∀ (A2 : Around) (outer2 : List Env) (s2 : Shared) (H2 : Hp) (E2 : XK) (f2 c2 : Addr) (G2 : Lk) (XX : DX), Room kb (A2.deeper (LamX.lamEnv X sc s2.heap.objs.size f2 c2)) → Rsw (lamN X A2 outer2 s2 H2 E2 sc f2 c2) G2 XX → DE (lamN X A2 outer2 s2 H2 E2 sc f2 c2) G2 body (tbd XX))
    (hg : Gl X "_law_denied" := by rfl) (he : starEach [.Lambda params body sc lpos, dueE] X.env = (false, eval (.Lambda params body sc lpos) X.env) :: starEach [dueE] X.env := by rfl)
    (he2 : starEach [dueE] X.env = (false, eval dueE X.env) :: starEach [] X.env := by rfl) (hpl : (backTo pos (starEach [dueE] X.env)).any (·.1) = false := by rfl) :
    DE X G (.Call (.Name "_law_denied" p) [.Lambda params body sc lpos, dueE] [] pos) (dDen Cs bs_law_denied tbd td) := by
  subst hqn hK
  obtain ⟨fd, F⟩ := c.def_ 78
  exact de_denied (X := X) (a := "_law_deed") (en := "_law_e") (NB := "NotBehindError") (ps := ["_law_deed", "_law_due"]) (k := k) (kb := kb) (T := lamT X.K) (Ng := ["_law_deed", "_law_due", "_law_e"]) hg c.g__law_denied F.kp F rfl (F.bindsN fun _ _ _ _ _ _ us hl => match us, hl with | [_, _], _ => rfl) s_law_denied rfl rfl rfl rfl (.inl rfl) rfl rfl c.g_NotBehindError (fun cn h => c.exmx cn h) (fun cn h => c.xcf cn h)
    (fun cdv A outer s H E a oe pn cn fs G hcn hr hk => ws_law_denied (P := X.prog) (w := X.w) (K := X.K) (mg := X.mg) (base := X.base) c hkk.1 cdv A outer s H E a oe pn cn fs G hcn hr hk) TB hcode hT hu hr hkk.2 L hdef hbind hdue hbody (by decide) (by decide) (by decide) (by decide) he he2 hpl
end
end LK
set_option Elab.async false
set_option linter.all false
set_option maxRecDepth 100000
set_option maxHeartbeats 4000000
namespace LK
open PySem PySem.Spec PyProof.Rows L2 DL
section
variable {P : Program} {w : World} {K : PySem.W.Frag} {mg : Str → Option Value} {base : Heap}
theorem s_law_wrong : FnScope ["_law_store_here", "_law_width", "_law_rounds_here", "_law_plan", "_law_lengths_here", "_law_row", "_law_bad", "_law_first", "_law_two", "_law_pair"] ["_law_store_here", "_law_width", "_law_rounds_here", "_law_plan", "_law_lengths_here"] (defScope (top 101)) := ⟨rfl, rfl, rfl, by decide +kernel, rfl, by decide +kernel, by decide +kernel⟩
theorem w_law_wrong (c : C K mg) (tb : TBs K mg base) : WalkL P w K mg base ["_law_store_here", "_law_width", "_law_rounds_here", "_law_plan", "_law_lengths_here", "_law_row", "_law_bad", "_law_first", "_law_two", "_law_pair"] "_law_wrong" (defScope (top 101)) (He.ga K "_law_wrong") 11 (defBody (top 101)) (lamT K) b_law_wrong := fun A outer s H E G XX hr hT rs =>
  have nd := s_law_wrong.nd
  (dss_cons (ds_set (i := 5) nd (de_call ((d_law_free c).mono (Nat.le_of_ble_eq_true rfl)) hr rfl c.g__law_free rs.exw (da_cons (de_var 0) (da_cons (de_slice false de_str do_none (do_some (de_var 1))) (da_cons (de_var 2) da_nil)))))
    (dss_cons (ds_set (i := 6) nd (de_call ((d_law_no_row c).mono (Nat.le_of_ble_eq_true rfl)) hr rfl c.g__law_no_row rs.exw (da_cons (de_var 0) (da_cons (de_var 1) (da_cons (de_var 2) da_nil)))))
    (dss_cons (ds_set (i := 7) nd (de_call ((d_law_bad_count c).mono (Nat.le_of_ble_eq_true rfl)) hr rfl c.g__law_bad_count rs.exw (da_cons (de_var 0) (da_cons de_int (da_cons de_int da_nil)))))
    (dss_cons (ds_set (i := 8) nd (de_op opx_add (lrx_add false) (de_op opx_add (lrx_add false) (de_lst false (da_cons (de_var 7) da_nil)) (de_callTy call_list_of (lc_list false) rfl c.fr_list (da_cons (de_var 4) da_nil))) (de_lst false (da_cons (de_call ((d_law_bad_count c).mono (Nat.le_of_ble_eq_true rfl)) hr rfl c.g__law_bad_count rs.exw (da_cons (de_var 0) (da_cons de_int (da_cons de_int da_nil)))) da_nil))))
    (dss_cons (ds_for (passes_of rfl) rfl (di_seq (de_lst false (da_cons (de_call ((d_law_bad_lengths c).mono (Nat.le_of_ble_eq_true rfl)) hr rfl c.g__law_bad_lengths rs.exw (da_cons (de_var 0) (da_cons (de_var 2) da_nil))) (da_cons (de_call ((d_law_bad_lengths c).mono (Nat.le_of_ble_eq_true rfl)) hr rfl c.g__law_bad_lengths rs.exw (da_cons (de_var 0) (da_cons (de_var 2) da_nil))) (da_cons (de_tup (da_cons (de_var 8) (da_cons (de_tup (da_cons de_str (da_cons (de_var 7) (da_cons de_int (da_cons de_int da_nil))))) da_nil))) da_nil))))) (dg_name (i := 9) nd) (dss_cons (ds_if (dt_not (dt_val (den_ok (K := K) (qn := ("_law_wrong" : Str) ++ ".<locals>.") (X := cxOf (L2N.CX P w) P w K mg base ["_law_store_here", "_law_width", "_law_rounds_here", "_law_plan", "_law_lengths_here", "_law_row", "_law_bad", "_law_first", "_law_two", "_law_pair"] "_law_wrong" (defScope (top 101)) (He.ga K "_law_wrong") (.ref (EL.codeA K (He.ga K "_law_wrong"))) A outer s H E) (k := 10) (kb := 9) c tb hT hr ⟨by decide, by decide⟩ (lt_law_wrong tb) rfl rfl rfl (lu_law_wrong c) (LamX.lamS_by rfl) rfl (fun _ _ _ _ _ => rfl) (de_ix (de_var 9) de_int) (fun A2 outer2 s2 H2 E2 f2 c2 G2 XX hr2 rs2 => (de_call ((d_anew c).mono (Nat.le_of_ble_eq_true rfl)) hr2 rfl c.g_anew rs2.exw (da_cons (de_var 3) (da_cons (de_ix (de_var 9) de_int) da_nil))))))) (dss_one (ds_ret de_bl)) dss_nil)
    (dss_cons (ds_if (dt_not (dt_val (den_ok (K := K) (qn := ("_law_wrong" : Str) ++ ".<locals>.") (X := cxOf (L2N.CX P w) P w K mg base ["_law_store_here", "_law_width", "_law_rounds_here", "_law_plan", "_law_lengths_here", "_law_row", "_law_bad", "_law_first", "_law_two", "_law_pair"] "_law_wrong" (defScope (top 101)) (He.ga K "_law_wrong") (.ref (EL.codeA K (He.ga K "_law_wrong"))) A outer s H E) (k := 10) (kb := 9) c tb hT hr ⟨by decide, by decide⟩ (lt_law_wrong tb) rfl rfl rfl (lu_law_wrong c) (LamX.lamS_by rfl) rfl (fun _ _ _ _ _ => rfl) (de_ix (de_var 9) de_int) (fun A2 outer2 s2 H2 E2 f2 c2 G2 XX hr2 rs2 => (de_call ((d_stretch_misses c).mono (Nat.le_of_ble_eq_true rfl)) hr2 rfl c.g_stretch_misses rs2.exw (da_cons (de_var 3) (da_cons (de_var 5) (da_cons (de_ix (de_var 9) de_int) da_nil)))))))) (dss_one (ds_ret de_bl)) dss_nil)
    (dss_one (ds_if (dt_not (dt_val (den_ok (K := K) (qn := ("_law_wrong" : Str) ++ ".<locals>.") (X := cxOf (L2N.CX P w) P w K mg base ["_law_store_here", "_law_width", "_law_rounds_here", "_law_plan", "_law_lengths_here", "_law_row", "_law_bad", "_law_first", "_law_two", "_law_pair"] "_law_wrong" (defScope (top 101)) (He.ga K "_law_wrong") (.ref (EL.codeA K (He.ga K "_law_wrong"))) A outer s H E) (k := 10) (kb := 9) c tb hT hr ⟨by decide, by decide⟩ (lt_law_wrong tb) rfl rfl rfl (lu_law_wrong c) (LamX.lamS_by rfl) rfl (fun _ _ _ _ _ => rfl) (de_tup (da_cons de_str (da_cons (de_var 6) da_nil))) (fun A2 outer2 s2 H2 E2 f2 c2 G2 XX hr2 rs2 => (de_call ((d_stretch_misses c).mono (Nat.le_of_ble_eq_true rfl)) hr2 rfl c.g_stretch_misses rs2.exw (da_cons (de_var 3) (da_cons (de_var 6) (da_cons (de_ix (de_var 9) de_int) da_nil)))))))) (dss_one (ds_ret de_bl)) dss_nil)))))
    (dss_one (ds_ret (den_ok (K := K) (qn := ("_law_wrong" : Str) ++ ".<locals>.") (X := cxOf (L2N.CX P w) P w K mg base ["_law_store_here", "_law_width", "_law_rounds_here", "_law_plan", "_law_lengths_here", "_law_row", "_law_bad", "_law_first", "_law_two", "_law_pair"] "_law_wrong" (defScope (top 101)) (He.ga K "_law_wrong") (.ref (EL.codeA K (He.ga K "_law_wrong"))) A outer s H E) (k := 10) (kb := 9) c tb hT hr ⟨by decide, by decide⟩ (lt_law_wrong tb) rfl rfl rfl (lu_law_wrong c) (LamX.lamS_by rfl) rfl (fun _ _ _ _ _ => rfl) (de_tup (da_cons de_str (da_cons (de_var 6) da_nil))) (fun A2 outer2 s2 H2 E2 f2 c2 G2 XX hr2 rs2 => (de_call ((d_stretch_misses c).mono (Nat.le_of_ble_eq_true rfl)) hr2 rfl c.g_stretch_misses rs2.exw (da_cons (de_var 3) (da_cons (de_var 6) (da_cons (de_callTy call_list_of (lc_list false) rfl c.fr_list (da_cons (de_var 4) da_nil)) da_nil)))))))))))))
theorem t_law_wrong (c : C K mg) (tb : TBs K mg base) : DFt P w K mg base 12 (He.ga K "_law_wrong") (lamT K) f_law_wrong := by
  obtain ⟨fd, F⟩ := c.def_ 87
  exact ⟨F.kp, fd, ["_law_store_here", "_law_width", "_law_rounds_here", "_law_plan", "_law_lengths_here"], def_okL F s_law_wrong (w_law_wrong c tb), F.bindsN fun _ _ _ _ _ _ us hl => match us, hl with | [_, _, _, _, _], _ => rfl⟩
theorem s_law : FnScope ["_law_script", "_law_store_here", "_law_shape_here", "_law_width", "_law_rounds_here", "_law_first", "_law_second", "_law_shares", "_law_others", "_law_plan", "_law_other"] ["_law_script"] (defScope (top 102)) := ⟨rfl, rfl, rfl, by decide +kernel, rfl, by decide +kernel, by decide +kernel⟩
theorem w_law (c : C K mg) (tb : TBs K mg base) : WalkL P w K mg base ["_law_script", "_law_store_here", "_law_shape_here", "_law_width", "_law_rounds_here", "_law_first", "_law_second", "_law_shares", "_law_others", "_law_plan", "_law_other"] "law" (defScope (top 102)) (He.ga K "law") 12 (defBody (top 102)) (lamT K) b_law := fun A outer s H E G XX hr hT rs =>
  have nd := s_law.nd
  (dss_cons (ds_set (i := 1) nd (de_call ((d_law_store c).mono (Nat.le_of_ble_eq_true rfl)) hr rfl c.g__law_store rs.exw (da_cons (de_var 0) da_nil)))
    (dss_cons (ds_set (i := 2) nd (de_call ((d_law_shape c).mono (Nat.le_of_ble_eq_true rfl)) hr rfl c.g__law_shape rs.exw (da_cons (de_var 1) (da_cons (de_ix (de_lst false (da_cons de_int (da_cons de_int da_nil))) (de_callTy callx_int lc_int rfl c.fr_int (da_cons (de_cmp (opx_eq hr.units) lrx_eq (de_call ((d_law_take c).mono (Nat.le_of_ble_eq_true rfl)) hr rfl c.g__law_take rs.exw (da_cons (de_var 1) (da_cons de_int da_nil))) de_int) da_nil))) da_nil))))
    (dss_cons (ds_set (i := 3) nd (de_ix (de_var 2) de_int))
    (dss_cons (ds_set (i := 4) nd (de_ix (de_var 2) de_int))
    (dss_cons (ds_set (i := 5) nd (de_call ((d_law_lengths c).mono (Nat.le_of_ble_eq_true rfl)) hr rfl c.g__law_lengths rs.exw (da_cons (de_var 1) (da_cons (de_var 4) da_nil))))
    (dss_cons (ds_set (i := 6) nd (de_call ((d_law_lengths c).mono (Nat.le_of_ble_eq_true rfl)) hr rfl c.g__law_lengths rs.exw (da_cons (de_var 1) (da_cons (de_var 4) da_nil))))
    (dss_cons (ds_set (i := 7) nd (de_call ((d_law_dealt_all c).mono (Nat.le_of_ble_eq_true rfl)) hr rfl c.g__law_dealt_all rs.exw (da_cons (de_var 1) (da_cons (de_var 3) (da_cons (de_var 4) da_nil)))))
    (dss_cons (ds_set (i := 8) nd (de_call ((d_law_dealt_all c).mono (Nat.le_of_ble_eq_true rfl)) hr rfl c.g__law_dealt_all rs.exw (da_cons (de_var 1) (da_cons (de_var 3) (da_cons (de_var 4) da_nil)))))
    (dss_cons (ds_set (i := 9) nd (de_make false c.mk_Plan (d_Plan___init__ c) (hr.mono (Nat.le_of_ble_eq_true rfl)) rfl c.g_Plan rs.exw (da_cons (de_var 3) (da_cons (de_var 4) (da_cons (de_call ((d_law_passed c).mono (Nat.le_of_ble_eq_true rfl)) hr rfl c.g__law_passed rs.exw (da_cons (de_var 1) (da_cons (de_var 7) da_nil))) da_nil)))))
    (dss_cons (ds_set (i := 10) nd (de_make false c.mk_Plan (d_Plan___init__ c) (hr.mono (Nat.le_of_ble_eq_true rfl)) rfl c.g_Plan rs.exw (da_cons (de_var 3) (da_cons (de_var 4) (da_cons (de_call ((d_law_passed c).mono (Nat.le_of_ble_eq_true rfl)) hr rfl c.g__law_passed rs.exw (da_cons (de_var 1) (da_cons (de_var 8) da_nil))) da_nil)))))
    (dss_cons (ds_if (dt_not (dt_val (de_call ((d_law_one c).mono (Nat.le_of_ble_eq_true rfl)) hr rfl c.g__law_one rs.exw (da_cons (de_var 1) (da_cons (de_var 3) (da_cons (de_var 4) (da_cons (de_var 7) (da_cons (de_var 9) (da_cons (de_var 5) da_nil))))))))) (dss_one (ds_ret de_bl)) dss_nil)
    (dss_cons (ds_if (dt_not (dt_val (de_call ((d_law_one c).mono (Nat.le_of_ble_eq_true rfl)) hr rfl c.g__law_one rs.exw (da_cons (de_var 1) (da_cons (de_var 3) (da_cons (de_var 4) (da_cons (de_var 8) (da_cons (de_var 10) (da_cons (de_var 6) da_nil))))))))) (dss_one (ds_ret de_bl)) dss_nil)
    (dss_cons (ds_if (dt_not (dt_val (de_callT ((t_law_wrong c tb).mono (Nat.le_of_ble_eq_true rfl)) hT hr rfl c.g__law_wrong rs.exw (da_cons (de_var 1) (da_cons (de_var 3) (da_cons (de_var 4) (da_cons (de_var 9) (da_cons (de_var 6) da_nil)))))))) (dss_one (ds_ret de_bl)) dss_nil)
    (dss_one (ds_ret (de_and (de_call ((d_law_one c).mono (Nat.le_of_ble_eq_true rfl)) hr rfl c.g__law_one rs.exw (da_cons (de_var 1) (da_cons (de_var 3) (da_cons (de_var 4) (da_cons (de_var 7) (da_cons (de_var 9) (da_cons (de_var 6) da_nil))))))) (de_and1 (de_call ((d_law_one c).mono (Nat.le_of_ble_eq_true rfl)) hr rfl c.g__law_one rs.exw (da_cons (de_var 1) (da_cons (de_var 3) (da_cons (de_var 4) (da_cons (de_var 8) (da_cons (de_var 10) (da_cons (de_var 5) da_nil))))))))))))))))))))))))
theorem t_law (c : C K mg) (tb : TBs K mg base) : DFt P w K mg base 13 (He.ga K "law") (lamT K) f_law := by
  obtain ⟨fd, F⟩ := c.def_ 88
  exact ⟨F.kp, fd, ["_law_script"], def_okL F s_law (w_law c tb), F.bindsN fun _ _ _ _ _ _ us hl => match us, hl with | [_], _ => rfl⟩
end
end LK
set_option Elab.async false
set_option linter.all false
set_option maxRecDepth 100000
set_option maxHeartbeats 1000000
namespace LK
open PySem PySem.Spec PyProof.Rows L2 DL
local macro_rules | `(tactic| push_cast [$xs,*]) => `(tactic| repeat (first
  | with_reducible refine hold_i ?_
  | simp only [q_sp, q_st_c, q_st_n, q_st_0, q_seq, q_next, q_drop, q_ret, q_retN, q_ifS, q_break, q_cont, q_asg, q_par, q_name, q_gnil, q_gcons, q_gtup, q_for, q_var0, q_varS, q_c, q_nil, q_cons, q_tup, q_lst, q_newF, q_newT, q_op, q_test,
    q_and, q_or, q_not, q_andV, q_orV, q_notV, q_if, q_call, q_callK, q_cb, q_bm, q_bm0, q_frz, q_frzC, q_neg, q_sub, q_subC, q_lc, q_lc2, q_dc, q_yes, q_wipe0, q_wipeS, q_sl, q_noPart, q_part, q_cutS, q_cutT, q_cutL, q_cutC, q_rvC, q_rvL,
    q_lvC, q_lvL, q_clC, q_sqT, q_sqL, q_sqC, q_addI, q_addS, q_addT, q_addL, q_subI, q_mulI, q_divI, q_modI, q_powI, q_cmpI, q_eqI, q_neI, q_eqStr, q_isN, q_notN, q_ixT, q_ixL, q_ixC, q_ixS, q_at0, q_at1, q_at2, q_at3, q_at4, q_at5, q_at6, q_at7, q_at8, q_at9,
    q_len, q_lenT, q_lenL, q_lenC, q_lenS, q_sum, q_sumA, q_intI, q_intS, q_str, q_abs, q_max, q_min, q_list, q_tuple, q_isi, q_tyN, q_tyB, q_tyI, q_tyS, q_tyT, q_tyL, q_tyC, q_append, q_extend, q_rng1, q_sqi, u_isN, u_isB, u_isI, u_isS, u_isT, u_isL, u_isR, u_isD, u_isO, u_isC, q_frIx0, q_frIx1, q_frTup, q_frTy, q_frLen, q_raise0, q_raiseF, q_isi2, q_make, q_fld, q_setF, q_prop, q_meth, q_callO, q_inD, q_dget, q_inS, q_revS, q_revX, q_enumS, q_enum, q_zip, q_rev, q_rng2, q_rng3, q_insert, q_reverse, q_join, q_isTyS, q_isTyL, q_cntB, q_isTyC, q_isE, q_xf, q_ones, q_callE, q_ovO, q_ovC, q_dvD, q_keyS, q_keyI, q_den, kb_NoneType_bool, kb_NoneType_int, kb_NoneType_str, kb_NoneType_tuple, kb_NoneType_list, kb_NoneType_dict, kb_bool_bool, kb_bool_int, kb_bool_str, kb_bool_tuple, kb_bool_list, kb_bool_dict, kb_int_bool, kb_int_int, kb_int_str, kb_int_tuple, kb_int_list, kb_int_dict, kb_str_bool, kb_str_int, kb_str_str, kb_str_tuple, kb_str_list, kb_str_dict, kb_tuple_bool, kb_tuple_int, kb_tuple_str, kb_tuple_tuple, kb_tuple_list, kb_tuple_dict, kb_list_bool, kb_list_int, kb_list_str, kb_list_tuple, kb_list_list, kb_list_dict, kb_dict_bool, kb_dict_int, kb_dict_str, kb_dict_tuple, kb_dict_list, kb_dict_dict, u_cast, q_ixN0, q_ixN1, q_ixN2, q_ixN3, q_ixN4, mput_mput, Option.some.injEq, Dt.lst.injEq, Dt.cel.injEq, Prod.mk.injEq, lk_pl0, lk_pl1, lk_pl2, lk_pl3,  Dt.obj.injEq,  Dt.int.injEq, exists_eq_left', exists_eq_left, exists_and_left, u_mapC, u_mapE,  not_true_eq_false, not_false_eq_true, eq_self, u_size, Nat.reduceLeDiff, Nat.reduceLT, 
    u_set0, u_setS, u_lenC, u_lenN, List.append_nil, u_nilA, u_consA, u_mapS, u_mapN, u_bindS, u_bindN, mput_same,
    true_and, and_true, decide_eq_true_eq, Bool.not_eq_true', decide_eq_false_iff_not, u_notT, u_notF, if_true, if_false, ite_true, ite_false, Bool.false_eq_true, reduceCtorEq, reduceIte, Nat.reduceAdd, $xs,*]))
local macro_rules | `(tactic| push_cast only [$xs,*]) => `(tactic| (try with_reducible refine hold_i ?_); (simp only [q_sp, q_st_c, q_st_n, q_st_0, q_seq, q_next, q_drop, q_ret, q_retN, q_ifS, q_break, q_cont, q_asg, q_par, q_name, q_gnil, q_gcons, q_gtup, q_for, q_var0, q_varS, q_c, q_nil, q_cons, q_tup, q_lst, q_newF, q_newT, q_op, q_test,
    q_and, q_or, q_not, q_andV, q_orV, q_notV, q_if, q_call, q_callK, q_cb, q_bm, q_bm0, q_frz, q_frzC, q_neg, q_sub, q_subC, q_lc, q_lc2, q_dc, q_yes, q_wipe0, q_wipeS, q_sl, q_noPart, q_part, q_cutS, q_cutT, q_cutL, q_cutC, q_rvC, q_rvL,
    q_lvC, q_lvL, q_clC, q_sqT, q_sqL, q_sqC, q_addI, q_addS, q_addT, q_addL, q_subI, q_mulI, q_divI, q_modI, q_powI, q_cmpI, q_eqI, q_neI, q_eqStr, q_isN, q_notN, q_ixT, q_ixL, q_ixC, q_ixS, q_at0, q_at1, q_at2, q_at3, q_at4, q_at5, q_at6, q_at7, q_at8, q_at9,
    q_len, q_lenT, q_lenL, q_lenC, q_lenS, q_sum, q_sumA, q_intI, q_intS, q_str, q_abs, q_max, q_min, q_list, q_tuple, q_isi, q_tyN, q_tyB, q_tyI, q_tyS, q_tyT, q_tyL, q_tyC, q_append, q_extend, q_rng1, q_sqi, u_isN, u_isB, u_isI, u_isS, u_isT, u_isL, u_isR, u_isD, u_isO, u_isC, q_frIx0, q_frIx1, q_frTup, q_frTy, q_frLen, q_raise0, q_raiseF, q_isi2, q_make, q_fld, q_setF, q_prop, q_meth, q_callO, q_inD, q_dget, q_inS, q_revS, q_revX, q_enumS, q_enum, q_zip, q_rev, q_rng2, q_rng3, q_insert, q_reverse, q_join, q_isTyS, q_isTyL, q_cntB, q_isTyC, q_isE, q_xf, q_ones, q_callE, q_ovO, q_ovC, q_dvD, q_keyS, q_keyI, q_den, kb_NoneType_bool, kb_NoneType_int, kb_NoneType_str, kb_NoneType_tuple, kb_NoneType_list, kb_NoneType_dict, kb_bool_bool, kb_bool_int, kb_bool_str, kb_bool_tuple, kb_bool_list, kb_bool_dict, kb_int_bool, kb_int_int, kb_int_str, kb_int_tuple, kb_int_list, kb_int_dict, kb_str_bool, kb_str_int, kb_str_str, kb_str_tuple, kb_str_list, kb_str_dict, kb_tuple_bool, kb_tuple_int, kb_tuple_str, kb_tuple_tuple, kb_tuple_list, kb_tuple_dict, kb_list_bool, kb_list_int, kb_list_str, kb_list_tuple, kb_list_list, kb_list_dict, kb_dict_bool, kb_dict_int, kb_dict_str, kb_dict_tuple, kb_dict_list, kb_dict_dict, u_cast, q_ixN0, q_ixN1, q_ixN2, q_ixN3, q_ixN4, mput_mput, Option.some.injEq, Dt.lst.injEq, Dt.cel.injEq, Prod.mk.injEq, lk_pl0, lk_pl1, lk_pl2, lk_pl3,  Dt.obj.injEq,  Dt.int.injEq, exists_eq_left', exists_eq_left, exists_and_left, u_mapC, u_mapE,  not_true_eq_false, not_false_eq_true, eq_self, u_size, Nat.reduceLeDiff, Nat.reduceLT, 
    u_set0, u_setS, u_lenC, u_lenN, List.append_nil, u_nilA, u_consA, u_mapS, u_mapN, u_bindS, u_bindN, mput_same,
    true_and, and_true, decide_eq_true_eq, Bool.not_eq_true', decide_eq_false_iff_not, u_notT, u_notF, if_true, if_false, ite_true, ite_false, Bool.false_eq_true, reduceCtorEq, reduceIte, Nat.reduceAdd, $xs,*]))
section
variable {M : Mm} {Q : DQ} {X : DX}
theorem abs_abs (i : Int) : (if i < 0 then -i else i) = (i.natAbs : Int) := by split <;> omega
theorem p_gcd {a b : Int} (h : Q (.int (Int.gcd a b : Nat)) M) : f_law_gcd [.int a, .int b] M Q X := by
  push_cast [f_law_gcd, b_law_gcd, abs_abs]
  refine while_of (fun n ds M' => M' = M ∧ ∃ l r : Nat, ∃ z, ds = [some (.int l), some (.int r), z] ∧ n = r ∧ Nat.gcd l r = Int.gcd a b) b.natAbs ⟨rfl, a.natAbs, b.natAbs, _, rfl, rfl, rfl⟩ ?_
  rintro r ds M' N hN ⟨rfl, l, r', z, rfl, rfl, hg⟩
  push_cast []
  split
  · rename_i hr
    push_cast []
    refine ⟨hr, ?_⟩
    push_cast []
    refine hN (l % r) _ _ (Nat.mod_lt _ (by omega)) ⟨rfl, r, l % r, some (.int ((l : Int) % (r : Int))), by rw [Int.natCast_emod], rfl, ?_⟩
    rw [← hg, Nat.gcd_comm, ← Nat.gcd_rec, Nat.gcd_comm]
  · rename_i hr
    push_cast []
    have : r = 0 := by omega
    subst this
    rw [Nat.gcd_zero_right] at hg
    rw [hg]
    exact h
theorem p_low {a b : Int} {n : Nat} (hb : 0 < b) (hb2 : b.natAbs < 2 ^ n) (hn : n ≤ 8999) (h : Q (fr (mkRat a b.toNat)) M) : f_law_low [.int a, .int b] M Q X := by
  push_cast [f_law_low, b_law_low]
  rw [if_neg (by omega)]
  push_cast []
  rw [if_neg (by omega)]
  push_cast []
  refine up_of (p_gcd ?_)
  push_cast []
  have g0 : 0 < Int.gcd a b := gcd_pos (by omega)
  have g1 : (Int.gcd a b : Int).natAbs < 2 ^ n := Nat.lt_of_le_of_lt (by rw [Int.natAbs_natCast]; exact Nat.le_of_dvd (by omega) (Int.gcd_dvd_natAbs_right a b)) hb2
  refine ⟨cd_of (by omega) g1 hn, cd_of (by omega) g1 hn, ?_⟩
  rw [fr_low hb]
  exact h
theorem p_plus {a b : Rat} {n m : Nat} (ha : Sz n a) (hb : Sz m b) (hn : n + m ≤ 8000) (h : Q (fr (a + b)) M) : f_law_plus [fr a, fr b] M Q X := by
  push_cast [f_law_plus, b_law_plus]
  refine ⟨cm_of ha.1 (nad hb) (by omega), cm_of hb.1 (nad ha) (by omega), cm_of (nad ha) (nad hb) (by omega), up_of ?_⟩
  refine p_low (Int.mul_pos (den_pos a) (den_pos b)) (nab (nad ha) (nad hb)) (by omega) ?_
  rw [← Int.natCast_mul, Int.toNat_natCast, fr_add]
  exact h
theorem p_minus {a b : Rat} {n m : Nat} (ha : Sz n a) (hb : Sz m b) (hn : n + m ≤ 8000) (h : Q (fr (a - b)) M) : f_law_minus [fr a, fr b] M Q X := by
  push_cast [f_law_minus, b_law_minus]
  refine ⟨cm_of ha.1 (nad hb) (by omega), cm_of hb.1 (nad ha) (by omega), cm_of (nad ha) (nad hb) (by omega), up_of ?_⟩
  refine p_low (Int.mul_pos (den_pos a) (den_pos b)) (nab (nad ha) (nad hb)) (by omega) ?_
  rw [← Int.natCast_mul, Int.toNat_natCast, fr_sub]
  exact h
/-! exact.py -/
theorem p_common_divisor {a b : Int} (hb : 0 ≤ b) (h0 : a ≠ 0 ∨ b ≠ 0) (h : b = 0 → 0 ≤ a) (hq : Q (.int (Int.gcd a b : Nat)) M) : f_common_divisor [.int a, .int b] M Q X := by
  push_cast [f_common_divisor, b_common_divisor]
  refine while_of (fun n ds M' => M' = M ∧ ∃ l r : Int, ds = [some (.int l), some (.int r)] ∧ 0 ≤ r ∧ (r = 0 → 0 ≤ l) ∧ n = r.toNat ∧ Int.gcd l r = Int.gcd a b) b.toNat ⟨rfl, a, b, rfl, hb, h, rfl, rfl⟩ ?_
  rintro n ds M' N hN ⟨rfl, l, r, rfl, hr0, hl, rfl, hg⟩
  push_cast []
  by_cases hr : r = 0
  · subst hr
    push_cast []
    have e : Int.gcd l 0 = l.natAbs := Int.gcd_zero_right l
    rw [e] at hg
    have : (Int.gcd a b : Int) = l := by have := hl rfl; omega
    rw [this] at hq
    exact hq
  · have hp : 0 < r := by omega
    rw [if_pos (by simp [hr])]
    push_cast []
    refine ⟨hp, hN (l % r).toNat _ _ ?_ ⟨rfl, r, l % r, rfl, Int.emod_nonneg _ hr, fun _ => hr0, rfl, ?_⟩⟩
    · have := Int.emod_lt_of_pos l hp
      have := Int.emod_nonneg l hr
      omega
    · rw [← hg, Int.gcd_comm]
      exact gcd_em l r
theorem p_is_int {i : Int} (h : Q (.bl true) M) : f_is_integer_value [.int i] M Q X := by
  push_cast [f_is_integer_value, b_is_integer_value]
  exact h
theorem p_parts_int {i : Int} (h : Q (.tup [.int i, .int 1]) M) : f_parts_of [.int i] M Q X := by
  push_cast [f_parts_of, b_parts_of]
  refine up_of (p_is_int ?_)
  push_cast []
  exact h
theorem p_is_int_tup {xs : List Dt} (h : Q (.bl false) M) : f_is_integer_value [.tup xs] M Q X := by
  push_cast [f_is_integer_value, b_is_integer_value]
  exact h
theorem p_parts_pair {i j : Int} (hj : 0 < j) (h : Q (.tup [.int i, .int j]) M) : f_parts_of [.tup [.int i, .int j]] M Q X := by
  push_cast [f_parts_of, b_parts_of]
  refine up_of (p_is_int_tup ?_)
  push_cast []
  refine up_of (p_is_int ?_)
  push_cast []
  refine up_of (p_is_int ?_)
  push_cast []
  rw [if_neg (by omega)]
  push_cast []
  exact h
theorem p_fraction_int {i : Int} (h : Q (fr i) M) : f_fraction [.int i] M Q X := by
  push_cast [f_fraction, b_fraction]
  refine up_of (p_parts_int ?_)
  push_cast []
  refine up_of (p_common_divisor (by omega) (.inr (by omega)) (by omega) ?_)
  rw [Int.gcd_one_right]
  push_cast []
  refine ⟨⟨by decide, by decide⟩, ⟨by decide, by decide⟩, ?_⟩
  rw [fr_int] at h
  simpa using h
theorem p_fraction_pair {i j : Int} {n : Nat} (hj : 0 < j) (hb : j.natAbs < 2 ^ n) (hn : n ≤ 8999) (h : Q (fr (mkRat i j.toNat)) M) : f_fraction [.tup [.int i, .int j]] M Q X := by
  push_cast [f_fraction, b_fraction]
  refine up_of (p_parts_pair hj ?_)
  push_cast []
  refine up_of (p_common_divisor (by omega) (.inr (by omega)) (by omega) ?_)
  push_cast []
  have g0 : 0 < Int.gcd i j := gcd_pos (by omega)
  have g1 : (Int.gcd i j : Int).natAbs < 2 ^ n := Nat.lt_of_le_of_lt (by rw [Int.natAbs_natCast]; exact Nat.le_of_dvd (by omega) (Int.gcd_dvd_natAbs_right i j)) hb
  refine ⟨cd_of (by omega) g1 hn, cd_of (by omega) g1 hn, ?_⟩
  rw [fr_low hj]
  exact h
theorem p_fraction {q : Rat} {n : Nat} (hq : Sz n q) (hn : n ≤ 8999) (h : Q (fr q) M) : f_fraction [fr q] M Q X := by
  unfold fr
  refine p_fraction_pair (den_pos q) (nad hq) hn ?_
  rw [Int.toNat_natCast, Rat.mkRat_self]
  exact h
theorem p_sum_of_two {a b : Rat} {n m : Nat} (ha : Sz n a) (hb : Sz m b) (hn : n + m ≤ 8000) (h : Q (fr (a + b)) M) : f_sum_of_two [fr a, fr b] M Q X := by
  push_cast [f_sum_of_two, b_sum_of_two]
  have d1 := den_pos a
  have d2 := den_pos b
  refine up_of (p_common_divisor (by omega) (.inr (by omega)) (by omega) ?_)
  push_cast []
  rw [Int.gcd_natCast_natCast]
  by_cases hg : Nat.gcd a.den b.den = 1
  · obtain ⟨e1, e2⟩ := add_short1 a b hg
    rw [if_pos (by omega)]
    push_cast []
    refine ⟨cm_of ha.1 (nad hb) (by omega), cm_of hb.1 (nad ha) (by omega), cm_of (nad ha) (nad hb) (by omega), ?_⟩
    have e : (fr (a + b) : Dt) = .tup [.int (a.num * b.den + b.num * a.den), .int ((a.den : Int) * b.den)] := by
      unfold fr; rw [e1, e2]; simp
    rw [← e]; exact h
  · rw [if_neg (by omega)]
    push_cast []
    have g0 : 0 < Nat.gcd a.den b.den := Nat.gcd_pos_of_pos_left _ a.den_pos
    have g1 : ((Nat.gcd a.den b.den : Nat) : Int).natAbs < 2 ^ n := by
      rw [Int.natAbs_natCast]
      exact Nat.lt_of_le_of_lt (Nat.gcd_le_left _ a.den_pos) ha.2
    have q1 : (((a.den / Nat.gcd a.den b.den : Nat) : Nat) : Int).natAbs < 2 ^ n := by
      rw [Int.natAbs_natCast]; exact Nat.lt_of_le_of_lt (Nat.div_le_self _ _) ha.2
    have q2 : (((b.den / Nat.gcd a.den b.den : Nat) : Nat) : Int).natAbs < 2 ^ m := by
      rw [Int.natAbs_natCast]; exact Nat.lt_of_le_of_lt (Nat.div_le_self _ _) hb.2
    refine ⟨cd_of (by omega) g1 (by omega), ?_⟩
    push_cast []
    refine ⟨cd_of (by omega) g1 (by omega), ?_⟩
    rw [← Int.natCast_ediv, ← Int.natCast_ediv]
    push_cast []
    refine ⟨cm_of ha.1 q2 (by omega), cm_of hb.1 q1 (by omega), ?_⟩
    generalize hr : a.num * ((b.den / Nat.gcd a.den b.den : Nat) : Int) + b.num * ((a.den / Nat.gcd a.den b.den : Nat) : Int) = raw
    obtain ⟨e1, e2⟩ := add_short2 a b hg hr.symm
    push_cast []
    refine up_of (p_common_divisor (by omega) (.inr (by omega)) (by omega) ?_)
    push_cast []
    have ec : Int.gcd raw ((Nat.gcd a.den b.den : Nat) : Int) = raw.natAbs.gcd (Nat.gcd a.den b.den) := by
      rw [Int.gcd_eq_natAbs_gcd_natAbs]; rfl
    have g2 : 0 < raw.natAbs.gcd (Nat.gcd a.den b.den) := Nat.gcd_pos_of_pos_right _ g0
    have g3 : ((raw.natAbs.gcd (Nat.gcd a.den b.den) : Nat) : Int).natAbs < 2 ^ n := by
      rw [Int.natAbs_natCast]
      refine Nat.lt_of_le_of_lt (Nat.gcd_le_right _ g0) ?_
      rw [Int.natAbs_natCast] at g1; exact g1
    rw [ec]
    refine ⟨cd_of (by omega) g3 (by omega), cd_of (by omega) g3 (by omega), ?_⟩
    have q3 : (((b.den / raw.natAbs.gcd (Nat.gcd a.den b.den) : Nat) : Nat) : Int).natAbs < 2 ^ m := by
      rw [Int.natAbs_natCast]; exact Nat.lt_of_le_of_lt (Nat.div_le_self _ _) hb.2
    rw [← Int.natCast_ediv]
    refine ⟨cm_of q1 q3 (by omega), ?_⟩
    have e : (fr (a + b) : Dt) = .tup [.int (raw / (raw.natAbs.gcd (Nat.gcd a.den b.den) : Nat)), .int (((a.den / Nat.gcd a.den b.den : Nat) : Int) * ((b.den / raw.natAbs.gcd (Nat.gcd a.den b.den) : Nat) : Int))] := by
      unfold fr; rw [e1, e2]; simp
    rw [← e]; exact h
theorem p_opposite {a : Rat} (h : Q (fr (-a)) M) : f_opposite [fr a] M Q X := by
  push_cast [f_opposite, b_opposite]
  exact h
theorem p_sub {a b : Rat} {n m : Nat} (ha : Sz n a) (hb : Sz m b) (hn : n + m ≤ 8000) (h : Q (fr (a - b)) M) : f_sub [fr a, fr b] M Q X := by
  push_cast [f_sub, b_sub]
  refine up_of (p_fraction ha (by omega) ?_)
  push_cast []
  refine up_of (p_fraction hb (by omega) ?_)
  push_cast []
  refine up_of (p_opposite ?_)
  push_cast []
  refine up_of (p_sum_of_two ha hb.neg hn ?_)
  rw [← Rat.sub_eq_add_neg]
  exact h
theorem p_sub_int {i : Int} {b : Rat} {n m : Nat} (ha : i.natAbs < 2 ^ n) (h0 : 0 < n) (hb : Sz m b) (hn : n + m ≤ 8000) (h : Q (fr (i - b)) M) : f_sub [.int i, fr b] M Q X := by
  push_cast [f_sub, b_sub]
  refine up_of (p_fraction_int ?_)
  push_cast []
  refine up_of (p_fraction hb (by omega) ?_)
  push_cast []
  refine up_of (p_opposite ?_)
  push_cast []
  refine up_of (p_sum_of_two (sz_int ha h0) hb.neg hn ?_)
  rw [← Rat.sub_eq_add_neg]
  exact h
end


end LK
set_option Elab.async false
set_option linter.all false
set_option maxRecDepth 100000
set_option maxHeartbeats 1000000
namespace LK
open PySem PySem.Spec PyProof.Rows L2 DL
local macro_rules | `(tactic| push_cast [$xs,*]) => `(tactic| repeat (first
  | with_reducible refine hold_i ?_
  | simp only [q_sp, q_st_c, q_st_n, q_st_0, q_seq, q_next, q_drop, q_ret, q_retN, q_ifS, q_break, q_cont, q_asg, q_par, q_name, q_gnil, q_gcons, q_gtup, q_for, q_var0, q_varS, q_c, q_nil, q_cons, q_tup, q_lst, q_newF, q_newT, q_op, q_test,
    q_and, q_or, q_not, q_andV, q_orV, q_notV, q_if, q_call, q_callK, q_cb, q_bm, q_bm0, q_frz, q_frzC, q_neg, q_sub, q_subC, q_lc, q_lc2, q_dc, q_yes, q_wipe0, q_wipeS, q_sl, q_noPart, q_part, q_cutS, q_cutT, q_cutL, q_cutC, q_rvC, q_rvL,
    q_lvC, q_lvL, q_clC, q_sqT, q_sqL, q_sqC, q_addI, q_addS, q_addT, q_addL, q_subI, q_mulI, q_divI, q_modI, q_powI, q_cmpI, q_eqI, q_neI, q_eqStr, q_isN, q_notN, q_ixT, q_ixL, q_ixC, q_ixS, q_at0, q_at1, q_at2, q_at3, q_at4, q_at5, q_at6, q_at7, q_at8, q_at9,
    q_len, q_lenT, q_lenL, q_lenC, q_lenS, q_sum, q_sumA, q_intI, q_intS, q_str, q_abs, q_max, q_min, q_list, q_tuple, q_isi, q_tyN, q_tyB, q_tyI, q_tyS, q_tyT, q_tyL, q_tyC, q_append, q_extend, q_rng1, q_sqi, u_isN, u_isB, u_isI, u_isS, u_isT, u_isL, u_isR, u_isD, u_isO, u_isC, q_frIx0, q_frIx1, q_frTup, q_frTy, q_frLen, q_raise0, q_raiseF, q_isi2, q_make, q_fld, q_setF, q_prop, q_meth, q_callO, q_inD, q_dget, q_inS, q_revS, q_revX, q_enumS, q_enum, q_zip, q_rev, q_rng2, q_rng3, q_insert, q_reverse, q_join, q_isTyS, q_isTyL, q_cntB, q_isTyC, q_isE, q_xf, q_ones, q_callE, q_ovO, q_ovC, q_dvD, q_keyS, q_keyI, q_den, kb_NoneType_bool, kb_NoneType_int, kb_NoneType_str, kb_NoneType_tuple, kb_NoneType_list, kb_NoneType_dict, kb_bool_bool, kb_bool_int, kb_bool_str, kb_bool_tuple, kb_bool_list, kb_bool_dict, kb_int_bool, kb_int_int, kb_int_str, kb_int_tuple, kb_int_list, kb_int_dict, kb_str_bool, kb_str_int, kb_str_str, kb_str_tuple, kb_str_list, kb_str_dict, kb_tuple_bool, kb_tuple_int, kb_tuple_str, kb_tuple_tuple, kb_tuple_list, kb_tuple_dict, kb_list_bool, kb_list_int, kb_list_str, kb_list_tuple, kb_list_list, kb_list_dict, kb_dict_bool, kb_dict_int, kb_dict_str, kb_dict_tuple, kb_dict_list, kb_dict_dict, u_cast, q_ixN0, q_ixN1, q_ixN2, q_ixN3, q_ixN4, mput_mput, Option.some.injEq, Dt.lst.injEq, Dt.cel.injEq, Prod.mk.injEq, lk_pl0, lk_pl1, lk_pl2, lk_pl3,  Dt.obj.injEq,  Dt.int.injEq, exists_eq_left', exists_eq_left, exists_and_left, u_mapC, u_mapE,  not_true_eq_false, not_false_eq_true, eq_self, u_size, Nat.reduceLeDiff, Nat.reduceLT, 
    u_set0, u_setS, u_lenC, u_lenN, List.append_nil, u_nilA, u_consA, u_mapS, u_mapN, u_bindS, u_bindN, mput_same,
    true_and, and_true, decide_eq_true_eq, Bool.not_eq_true', decide_eq_false_iff_not, u_notT, u_notF, if_true, if_false, ite_true, ite_false, Bool.false_eq_true, reduceCtorEq, reduceIte, Nat.reduceAdd, $xs,*]))
local macro_rules | `(tactic| push_cast only [$xs,*]) => `(tactic| (try with_reducible refine hold_i ?_); (simp only [q_sp, q_st_c, q_st_n, q_st_0, q_seq, q_next, q_drop, q_ret, q_retN, q_ifS, q_break, q_cont, q_asg, q_par, q_name, q_gnil, q_gcons, q_gtup, q_for, q_var0, q_varS, q_c, q_nil, q_cons, q_tup, q_lst, q_newF, q_newT, q_op, q_test,
    q_and, q_or, q_not, q_andV, q_orV, q_notV, q_if, q_call, q_callK, q_cb, q_bm, q_bm0, q_frz, q_frzC, q_neg, q_sub, q_subC, q_lc, q_lc2, q_dc, q_yes, q_wipe0, q_wipeS, q_sl, q_noPart, q_part, q_cutS, q_cutT, q_cutL, q_cutC, q_rvC, q_rvL,
    q_lvC, q_lvL, q_clC, q_sqT, q_sqL, q_sqC, q_addI, q_addS, q_addT, q_addL, q_subI, q_mulI, q_divI, q_modI, q_powI, q_cmpI, q_eqI, q_neI, q_eqStr, q_isN, q_notN, q_ixT, q_ixL, q_ixC, q_ixS, q_at0, q_at1, q_at2, q_at3, q_at4, q_at5, q_at6, q_at7, q_at8, q_at9,
    q_len, q_lenT, q_lenL, q_lenC, q_lenS, q_sum, q_sumA, q_intI, q_intS, q_str, q_abs, q_max, q_min, q_list, q_tuple, q_isi, q_tyN, q_tyB, q_tyI, q_tyS, q_tyT, q_tyL, q_tyC, q_append, q_extend, q_rng1, q_sqi, u_isN, u_isB, u_isI, u_isS, u_isT, u_isL, u_isR, u_isD, u_isO, u_isC, q_frIx0, q_frIx1, q_frTup, q_frTy, q_frLen, q_raise0, q_raiseF, q_isi2, q_make, q_fld, q_setF, q_prop, q_meth, q_callO, q_inD, q_dget, q_inS, q_revS, q_revX, q_enumS, q_enum, q_zip, q_rev, q_rng2, q_rng3, q_insert, q_reverse, q_join, q_isTyS, q_isTyL, q_cntB, q_isTyC, q_isE, q_xf, q_ones, q_callE, q_ovO, q_ovC, q_dvD, q_keyS, q_keyI, q_den, kb_NoneType_bool, kb_NoneType_int, kb_NoneType_str, kb_NoneType_tuple, kb_NoneType_list, kb_NoneType_dict, kb_bool_bool, kb_bool_int, kb_bool_str, kb_bool_tuple, kb_bool_list, kb_bool_dict, kb_int_bool, kb_int_int, kb_int_str, kb_int_tuple, kb_int_list, kb_int_dict, kb_str_bool, kb_str_int, kb_str_str, kb_str_tuple, kb_str_list, kb_str_dict, kb_tuple_bool, kb_tuple_int, kb_tuple_str, kb_tuple_tuple, kb_tuple_list, kb_tuple_dict, kb_list_bool, kb_list_int, kb_list_str, kb_list_tuple, kb_list_list, kb_list_dict, kb_dict_bool, kb_dict_int, kb_dict_str, kb_dict_tuple, kb_dict_list, kb_dict_dict, u_cast, q_ixN0, q_ixN1, q_ixN2, q_ixN3, q_ixN4, mput_mput, Option.some.injEq, Dt.lst.injEq, Dt.cel.injEq, Prod.mk.injEq, lk_pl0, lk_pl1, lk_pl2, lk_pl3,  Dt.obj.injEq,  Dt.int.injEq, exists_eq_left', exists_eq_left, exists_and_left, u_mapC, u_mapE,  not_true_eq_false, not_false_eq_true, eq_self, u_size, Nat.reduceLeDiff, Nat.reduceLT, 
    u_set0, u_setS, u_lenC, u_lenN, List.append_nil, u_nilA, u_consA, u_mapS, u_mapN, u_bindS, u_bindN, mput_same,
    true_and, and_true, decide_eq_true_eq, Bool.not_eq_true', decide_eq_false_iff_not, u_notT, u_notF, if_true, if_false, ite_true, ite_false, Bool.false_eq_true, reduceCtorEq, reduceIte, Nat.reduceAdd, $xs,*]))
section
variable {M : Mm} {Q : DQ} {X : DX}
theorem p_mixed {a : Addr} (hM : Ok a M) (h : ∀ r M', Dr a M M' → 0 ≤ r → Q (.int r) M') : f_law_mixed [.cel a] M Q X := by
  obtain ⟨s, hM, i, b, t, c, m, cells, rfl, h5, hb, ht, ht2⟩ := hM
  simp only [List.map_cons] at hM
  push_cast [f_law_mixed, b_law_mixed, hM]
  refine ⟨cm_c (by decide) (by decide), cm_c (by decide) (by decide), by decide, ?_⟩
  push_cast []
  generalize ht' : (t * 68718952447 + (c + 1) * 1000003 + 97) % 2305843009213693951 = t'
  have b1 : 0 ≤ t' := by omega
  have b2 : t' < 2305843009213693951 := by omega
  refine ⟨cm_l (by omega) (by omega), cm_c (by decide) (by decide), by decide, ?_⟩
  push_cast []
  refine ⟨cm_c (by decide) (by decide), cd_c (by decide) (by decide), by decide, ?_⟩
  exact h _ _ (dr_put (s := i :: b :: t' :: (c + 1) :: m :: cells) rfl ⟨i, b, t', c + 1, m, cells, rfl, h5, hb, b1, by omega⟩) (Int.emod_nonneg _ (by decide))
theorem p_take {a : Addr} {n : Int} (hM : Ok a M) (hn : n < 2 ^ 64) (h : ∀ r M', Dr a M M' → 0 ≤ r → (1 ≤ n → r < n) → Q (.int r) M') : f_law_take [.cel a, .int n] M Q X := by
  push_cast [f_law_take, b_law_take]
  split
  · exact h 0 M (.refl hM) (by omega) (by omega)
  rename_i hn2
  refine q_mid (fun ds' M' => Dr a M M' ∧ ∃ x y, ds' = [some (.cel a), some (.int n), x, y]) (fun N hN => ?_) ?_
  · have hok := hM
    obtain ⟨s, hM, i, b, t, c, m, cells, rfl, h5, hb, ht, ht2⟩ := hM
    simp only [List.map_cons] at hM
    push_cast [hM]
    split
    · split
      · split
        · rename_i hb0 hm0 hi
          have hl : i.toNat < (i :: b :: t :: c :: m :: cells).length := by
            simp only [List.length_map] at hi
            simp only [List.length_cons]; omega
          obtain ⟨cell, hc⟩ : ∃ cell, (i :: b :: t :: c :: m :: cells)[i.toNat]? = some cell := ⟨_, List.getElem?_eq_getElem hl⟩
          have hat : atI (Dt.int i :: Dt.int b :: Dt.int t :: Dt.int c :: Dt.int m :: List.map Dt.int cells) i = some (.int cell) := by
            have := atI_of (xs := (i :: b :: t :: c :: m :: cells).map Dt.int) (n := i.toNat) (d := .int cell) (by rw [List.getElem?_map, hc]; rfl)
            rw [Int.toNat_of_nonneg (by omega)] at this
            exact this
          rw [hat]
          push_cast [hM]
          refine ⟨cm_c (by decide) (by decide), by decide, ?_⟩
          have g : ∀ b' m' : Int, 0 ≤ b' → StOk ((i + 1) :: b' :: ((t + cell * 5 + 1) % 2305843009213693951) :: c :: m' :: cells) := fun b' m' hb' => ⟨i + 1, b', _, c, m', cells, rfl, by omega, hb', by omega, by omega⟩
          push_cast []
          refine ⟨⟨by decide, by decide, by decide⟩, ?_⟩
          split
          · exact hN _ _ ⟨dr_put rfl (g _ m (by split <;> omega)), _, _, rfl⟩
          · refine ⟨⟨by decide, by decide, by decide⟩, ?_⟩
            split
            · exact hN _ _ ⟨dr_put rfl (g _ m (by split <;> omega)), _, _, rfl⟩
            · exact hN _ _ ⟨dr_put rfl (g b 2 hb), _, _, rfl⟩
        · exact hN _ _ ⟨.refl hok, _, _, rfl⟩
      · exact hN _ _ ⟨.refl hok, _, _, rfl⟩
    · exact hN _ _ ⟨.refl hok, _, _, rfl⟩
  rintro ds1 M1 ⟨hd, x, y, rfl⟩
  obtain ⟨s, hM1, i, b, t, c, m, cells, rfl, h5, hb, ht, ht2⟩ := hd.ok
  simp only [List.map_cons] at hM1
  push_cast only [hM1]
  split
  · push_cast [hM1]
    refine ⟨by omega, ?_⟩
    push_cast [hM1]
    refine ⟨wide_div (b := 64) (by omega) (by omega) (by omega) (by omega), ?_⟩
    push_cast []
    refine h _ _ (hd.put (s := i :: (b / n) :: t :: c :: m :: cells) rfl ⟨i, _, t, c, m, cells, rfl, h5, Int.ediv_nonneg hb (by omega), ht, ht2⟩) (Int.emod_nonneg _ (by omega)) (fun _ => Int.emod_lt_of_pos _ (by omega))
  · refine q_mid (fun ds' M' => Dr a M M' ∧ ∃ x y, ds' = [some (.cel a), some (.int n), x, y]) (fun N hN => ?_) ?_
    · push_cast [hM1]
      split
      · exact hN _ _ ⟨hd.put (s := i :: b :: t :: c :: (m - 1) :: cells) rfl ⟨i, b, t, c, m - 1, cells, rfl, h5, hb, ht, ht2⟩, _, _, rfl⟩
      · exact hN _ _ ⟨hd, _, _, rfl⟩
    · rintro ds2 M2 ⟨hd2, x2, y2, rfl⟩
      push_cast []
      refine up_of (p_mixed hd2.ok fun r M3 hd3 h0 => ?_)
      push_cast []
      exact ⟨by omega, h _ _ (hd2.trans hd3) (Int.emod_nonneg _ (by omega)) (fun _ => Int.emod_lt_of_pos _ (by omega))⟩
theorem p_edge {a : Addr} {n : Int} (hM : Ok a M) (hn : n < 2 ^ 64) (h : ∀ r M', Dr a M M' → 0 ≤ r → (1 ≤ n → r < n) → Q (.int r) M') : f_law_edge [.cel a, .int n] M Q X := by
  push_cast [f_law_edge, b_law_edge]
  split
  · exact h 0 M (.refl hM) (by omega) (by omega)
  push_cast []
  refine up_of (p_take hM (by decide) fun r M1 hd h0 h1 => ?_)
  push_cast []
  split
  · exact h 0 M1 hd (by omega) (by omega)
  push_cast []
  split
  · exact h _ M1 hd (by omega) (by omega)
  push_cast []
  refine up_of (p_take hd.ok hn fun r M2 hd2 h0 h1 => ?_)
  exact h _ M2 (hd.trans hd2) h0 h1
theorem p_store {xs : List Int} (hl : xs.length ≤ 1000) (h : ∀ p, M p = none → ∀ M', (∀ b, b ≠ p → M' b = M b) → Ok p M' → Q (.cel p) M') : f_law_store [.ro (xs.map .int)] M Q X := by
  have e : rview M (.ro (xs.map .int)) = some (xs.map .int) := rfl
  have e2 : lenD M (.ro (xs.map .int)) = some xs.length := by simp [lenD, rview]
  push_cast [f_law_store, b_law_store, e, e2]
  refine lc_map (fun i : Int => .int i) (by rfl) (fun x N hN => ?_) xs [] (by simp only [List.length_nil, sizeLine_eq]; omega) ?_
  · push_cast []
    exact hN
  push_cast [List.length_map]
  refine ⟨by omega, fun p hp => h p hp _ (fun b hb => mput_ne hb) ⟨5 :: 0 :: (1 + xs.length) :: 0 :: 0 :: xs, ?_, 5, 0, _, 0, 0, xs, rfl, by omega, by omega, by omega, by omega⟩⟩
  rw [mput_same]; rfl
theorem p_most {w : Nat} (hw : W5 w) (h : Q (.int (mostR w : Nat)) M) : f_law_most [.int w] M Q X := by
  push_cast [f_law_most, b_law_most]
  rcases hw.cases with rfl | rfl | rfl | rfl | rfl <;> (push_cast [Int.reduceSub]; exact h)
theorem p_power {b : Int} {n : Nat} (hb : -(2 ^ 64) < b) (hb2 : b < 2 ^ 64) (hn : n < 1000) (h : Q (.int (b ^ n)) M) : f_law_power [.int b, .int (n : Int)] M Q X := by
  push_cast [f_law_power, b_law_power]
  refine ⟨by omega, by omega, ?_⟩
  rw [Int.toNat_natCast]
  refine for_rng (fun i ds' M' => M' = M ∧ ∃ z, ds' = [some (.int b), some (.int n), some (.int (b ^ i)), z]) (fun i ds' M' N hi hN => ?_) ?_ _ _ ⟨rfl, none, by rw [Int.pow_zero]⟩
  · rintro ⟨rfl, z, rfl⟩
    push_cast []
    exact ⟨cm_c hb hb2, hN _ _ ⟨rfl, _, by rw [Int.pow_succ]⟩⟩
  · rintro ds' M' ⟨rfl, z, rfl⟩
    push_cast []
    exact h
theorem p_rounds {a : Addr} {w : Nat} {top : Int} (hM : Ok a M) (hw : W5 w) (ht : 1 ≤ top) (h : ∀ (r : Nat) M', Dr a M M' → r ≤ mostR w → Q (.int r) M') : f_law_rounds [.cel a, .int w, .int top] M Q X := by
  push_cast [f_law_rounds, b_law_rounds]
  obtain ⟨lim, hl, e⟩ : ∃ lim : Nat, lim ≤ mostR w ∧ atI [Dt.int 4, Dt.int 4, Dt.int 3, Dt.int 2, Dt.int 2] ((w : Int) - 1) = some (.int lim) := by
    rcases hw.cases with rfl | rfl | rfl | rfl | rfl
    · exact ⟨4, by decide, rfl⟩
    · exact ⟨4, by decide, rfl⟩
    · exact ⟨3, by decide, rfl⟩
    · exact ⟨2, by decide, rfl⟩
    · exact ⟨2, by decide, rfl⟩
  rw [e]
  dsimp only
  refine q_mid (fun ds' M' => Dr a M M' ∧ ∃ (l : Nat) (x y : Option Dt), l ≤ mostR w ∧ ds' = [some (.cel a), some (.int w), some (.int top), some (.int l), x, y]) (fun N hN => ?_) ?_
  · push_cast []
    refine up_of (p_take hM (by decide) fun r M1 hd h0 h1 => ?_)
    push_cast []
    split
    · refine up_of (p_most hw ?_)
      push_cast []
      exact hN _ _ ⟨hd, mostR w, _, _, Nat.le_refl _, rfl⟩
    · exact hN _ _ ⟨hd, lim, _, _, hl, rfl⟩
  rintro ds1 M1 ⟨hd, l, x, y, hl2, rfl⟩
  have h8 := mostR_le (w := w)
  push_cast []
  refine up_of (p_edge hd.ok (by omega) fun r M2 hd2 h0 h1 => ?_)
  push_cast []
  refine ⟨by decide, by decide, ?_⟩
  refine for_rng (n := 8) (fun i ds' M' => M' = M2 ∧ ∃ (f : Nat) (z : Option Dt), f ≤ mostR w ∧ ds' = [some (.cel a), some (.int w), some (.int top), some (.int l), some (.int f), z]) (fun i ds' M' N hi hN => ?_) ?_ _ _ ⟨rfl, r.toNat, y, by omega, by rw [Int.toNat_of_nonneg h0]⟩
  · rintro ⟨rfl, f, z, hf, rfl⟩
    push_cast []
    have hw5 := hw.2
    refine up_of (p_power (by omega) (by omega) (by omega) ?_)
    push_cast []
    split
    · rename_i hgt
      have : f ≠ 0 := by
        intro e; subst e
        rw [Int.pow_zero] at hgt; omega
      refine hN _ _ ⟨rfl, f - 1, some (.int i), by omega, ?_⟩
      rw [Int.natCast_sub (by omega)]; rfl
    · exact hN _ _ ⟨rfl, f, _, hf, rfl⟩
  · rintro ds' M' ⟨rfl, f, z, hf, rfl⟩
    push_cast []
    exact h f _ (hd.trans hd2) hf
theorem p_shape {a : Addr} {top : Int} (hM : Ok a M) (ht : 1 ≤ top) (h : ∀ (w r : Nat) M', Dr a M M' → W5 w → r ≤ mostR w → Q (.tup [.int w, .int r]) M') : f_law_shape [.cel a, .int top] M Q X := by
  push_cast [f_law_shape, b_law_shape]
  refine up_of (p_take hM (by decide) fun r M1 hd h0 h1 => ?_)
  obtain ⟨d, hd1, e⟩ := atI_mem (xs := [Dt.int 2, Dt.int 2, Dt.int 2, Dt.int 2, Dt.int 3, Dt.int 3, Dt.int 1, Dt.int 4, Dt.int 5, Dt.int 2]) h0 (by have := h1 (by decide); simp only [List.length_cons, List.length_nil]; omega)
  push_cast [e]
  obtain ⟨w, hw, rfl⟩ : ∃ w : Nat, W5 w ∧ d = .int w := by
    simp only [List.mem_cons, List.not_mem_nil, or_false] at hd1
    rcases hd1 with rfl | rfl | rfl | rfl | rfl | rfl | rfl | rfl | rfl | rfl
    · exact ⟨2, ⟨by decide, by decide⟩, rfl⟩
    · exact ⟨2, ⟨by decide, by decide⟩, rfl⟩
    · exact ⟨2, ⟨by decide, by decide⟩, rfl⟩
    · exact ⟨2, ⟨by decide, by decide⟩, rfl⟩
    · exact ⟨3, ⟨by decide, by decide⟩, rfl⟩
    · exact ⟨3, ⟨by decide, by decide⟩, rfl⟩
    · exact ⟨1, ⟨by decide, by decide⟩, rfl⟩
    · exact ⟨4, ⟨by decide, by decide⟩, rfl⟩
    · exact ⟨5, ⟨by decide, by decide⟩, rfl⟩
    · exact ⟨2, ⟨by decide, by decide⟩, rfl⟩
  refine up_of (p_rounds hd.ok hw ht fun r2 M2 hd2 hr2 => ?_)
  push_cast []
  exact h w r2 M2 (hd.trans hd2) hw hr2
theorem p_bad_count {a : Addr} {lo hi : Int} (hM : Ok a M) (hlo : -1000 ≤ lo ∧ lo ≤ hi) (hhi : hi ≤ 1000000) (h : ∀ d M', Dr a M M' → BadC lo hi d → Q d M') : f_law_bad_count [.cel a, .int lo, .int hi] M Q X := by
  push_cast [f_law_bad_count, b_law_bad_count]
  refine ⟨⟨by decide, by decide, by decide⟩, up_of (p_take hM (by decide) fun r M1 hd h0 h1 => ?_)⟩
  push_cast []
  refine ⟨⟨by decide, by decide, by decide⟩, ⟨by decide, by decide, by decide⟩, ?_⟩
  push_cast []
  refine up_of (p_take hd.ok (by decide) fun r2 M2 hd2 h02 h12 => ?_)
  have e1 : (10 : Int) ^ Int.toNat 40 = 10000000000000000000000000000000000000000 := by decide
  rw [e1]
  obtain ⟨d, hd1, e⟩ := atI_mem (xs := [Dt.int (lo - 1), Dt.int (hi + 1), Dt.bl true, Dt.bl false, Dt.int (lo - 2 - r), Dt.int (hi + 2 + r), Dt.int (10000000000000000000000000000000000000000 - 1), Dt.int (1 - 10000000000000000000000000000000000000000)]) h02 (by have := h12 (by decide); simp only [List.length_cons, List.length_nil]; omega)
  push_cast [e]
  refine h d M2 (hd.trans hd2) ?_
  simp only [List.mem_cons, List.not_mem_nil, or_false] at hd1
  rcases hd1 with rfl | rfl | rfl | rfl | rfl | rfl | rfl | rfl
  · exact .inl ⟨_, rfl, by omega⟩
  · exact .inl ⟨_, rfl, by omega⟩
  · exact .inr ⟨_, rfl⟩
  · exact .inr ⟨_, rfl⟩
  · exact .inl ⟨_, rfl, by omega⟩
  · exact .inl ⟨_, rfl, by omega⟩
  · exact .inl ⟨_, rfl, by omega⟩
  · exact .inl ⟨_, rfl, by omega⟩
end


end LK
set_option Elab.async false
set_option linter.all false
set_option maxRecDepth 100000
set_option maxHeartbeats 1000000
namespace LK
open PySem PySem.Spec PyProof.Rows L2 DL
local macro_rules | `(tactic| push_cast [$xs,*]) => `(tactic| repeat (first
  | with_reducible refine hold_i ?_
  | simp only [q_sp, q_st_c, q_st_n, q_st_0, q_seq, q_next, q_drop, q_ret, q_retN, q_ifS, q_break, q_cont, q_asg, q_par, q_name, q_gnil, q_gcons, q_gtup, q_for, q_var0, q_varS, q_c, q_nil, q_cons, q_tup, q_lst, q_newF, q_newT, q_op, q_test,
    q_and, q_or, q_not, q_andV, q_orV, q_notV, q_if, q_call, q_callK, q_cb, q_bm, q_bm0, q_frz, q_frzC, q_neg, q_sub, q_subC, q_lc, q_lc2, q_dc, q_yes, q_wipe0, q_wipeS, q_sl, q_noPart, q_part, q_cutS, q_cutT, q_cutL, q_cutC, q_rvC, q_rvL,
    q_lvC, q_lvL, q_clC, q_sqT, q_sqL, q_sqC, q_addI, q_addS, q_addT, q_addL, q_subI, q_mulI, q_divI, q_modI, q_powI, q_cmpI, q_eqI, q_neI, q_eqStr, q_isN, q_notN, q_ixT, q_ixL, q_ixC, q_ixS, q_at0, q_at1, q_at2, q_at3, q_at4, q_at5, q_at6, q_at7, q_at8, q_at9,
    q_len, q_lenT, q_lenL, q_lenC, q_lenS, q_sum, q_sumA, q_intI, q_intS, q_str, q_abs, q_max, q_min, q_list, q_tuple, q_isi, q_tyN, q_tyB, q_tyI, q_tyS, q_tyT, q_tyL, q_tyC, q_append, q_extend, q_rng1, q_sqi, u_isN, u_isB, u_isI, u_isS, u_isT, u_isL, u_isR, u_isD, u_isO, u_isC, q_frIx0, q_frIx1, q_frTup, q_frTy, q_frLen, q_raise0, q_raiseF, q_isi2, q_make, q_fld, q_setF, q_prop, q_meth, q_callO, q_inD, q_dget, q_inS, q_revS, q_revX, q_enumS, q_enum, q_zip, q_rev, q_rng2, q_rng3, q_insert, q_reverse, q_join, q_isTyS, q_isTyL, q_cntB, q_isTyC, q_isE, q_xf, q_ones, q_callE, q_ovO, q_ovC, q_dvD, q_keyS, q_keyI, q_den, kb_NoneType_bool, kb_NoneType_int, kb_NoneType_str, kb_NoneType_tuple, kb_NoneType_list, kb_NoneType_dict, kb_bool_bool, kb_bool_int, kb_bool_str, kb_bool_tuple, kb_bool_list, kb_bool_dict, kb_int_bool, kb_int_int, kb_int_str, kb_int_tuple, kb_int_list, kb_int_dict, kb_str_bool, kb_str_int, kb_str_str, kb_str_tuple, kb_str_list, kb_str_dict, kb_tuple_bool, kb_tuple_int, kb_tuple_str, kb_tuple_tuple, kb_tuple_list, kb_tuple_dict, kb_list_bool, kb_list_int, kb_list_str, kb_list_tuple, kb_list_list, kb_list_dict, kb_dict_bool, kb_dict_int, kb_dict_str, kb_dict_tuple, kb_dict_list, kb_dict_dict, u_cast, q_ixN0, q_ixN1, q_ixN2, q_ixN3, q_ixN4, mput_mput, Option.some.injEq, Dt.lst.injEq, Dt.cel.injEq, Prod.mk.injEq, lk_pl0, lk_pl1, lk_pl2, lk_pl3,  Dt.obj.injEq,  Dt.int.injEq, exists_eq_left', exists_eq_left, exists_and_left, u_mapC, u_mapE,  not_true_eq_false, not_false_eq_true, eq_self, u_size, Nat.reduceLeDiff, Nat.reduceLT, 
    u_set0, u_setS, u_lenC, u_lenN, List.append_nil, u_nilA, u_consA, u_mapS, u_mapN, u_bindS, u_bindN, mput_same,
    true_and, and_true, decide_eq_true_eq, Bool.not_eq_true', decide_eq_false_iff_not, u_notT, u_notF, if_true, if_false, ite_true, ite_false, Bool.false_eq_true, reduceCtorEq, reduceIte, Nat.reduceAdd, $xs,*]))
local macro_rules | `(tactic| push_cast only [$xs,*]) => `(tactic| (try with_reducible refine hold_i ?_); (simp only [q_sp, q_st_c, q_st_n, q_st_0, q_seq, q_next, q_drop, q_ret, q_retN, q_ifS, q_break, q_cont, q_asg, q_par, q_name, q_gnil, q_gcons, q_gtup, q_for, q_var0, q_varS, q_c, q_nil, q_cons, q_tup, q_lst, q_newF, q_newT, q_op, q_test,
    q_and, q_or, q_not, q_andV, q_orV, q_notV, q_if, q_call, q_callK, q_cb, q_bm, q_bm0, q_frz, q_frzC, q_neg, q_sub, q_subC, q_lc, q_lc2, q_dc, q_yes, q_wipe0, q_wipeS, q_sl, q_noPart, q_part, q_cutS, q_cutT, q_cutL, q_cutC, q_rvC, q_rvL,
    q_lvC, q_lvL, q_clC, q_sqT, q_sqL, q_sqC, q_addI, q_addS, q_addT, q_addL, q_subI, q_mulI, q_divI, q_modI, q_powI, q_cmpI, q_eqI, q_neI, q_eqStr, q_isN, q_notN, q_ixT, q_ixL, q_ixC, q_ixS, q_at0, q_at1, q_at2, q_at3, q_at4, q_at5, q_at6, q_at7, q_at8, q_at9,
    q_len, q_lenT, q_lenL, q_lenC, q_lenS, q_sum, q_sumA, q_intI, q_intS, q_str, q_abs, q_max, q_min, q_list, q_tuple, q_isi, q_tyN, q_tyB, q_tyI, q_tyS, q_tyT, q_tyL, q_tyC, q_append, q_extend, q_rng1, q_sqi, u_isN, u_isB, u_isI, u_isS, u_isT, u_isL, u_isR, u_isD, u_isO, u_isC, q_frIx0, q_frIx1, q_frTup, q_frTy, q_frLen, q_raise0, q_raiseF, q_isi2, q_make, q_fld, q_setF, q_prop, q_meth, q_callO, q_inD, q_dget, q_inS, q_revS, q_revX, q_enumS, q_enum, q_zip, q_rev, q_rng2, q_rng3, q_insert, q_reverse, q_join, q_isTyS, q_isTyL, q_cntB, q_isTyC, q_isE, q_xf, q_ones, q_callE, q_ovO, q_ovC, q_dvD, q_keyS, q_keyI, q_den, kb_NoneType_bool, kb_NoneType_int, kb_NoneType_str, kb_NoneType_tuple, kb_NoneType_list, kb_NoneType_dict, kb_bool_bool, kb_bool_int, kb_bool_str, kb_bool_tuple, kb_bool_list, kb_bool_dict, kb_int_bool, kb_int_int, kb_int_str, kb_int_tuple, kb_int_list, kb_int_dict, kb_str_bool, kb_str_int, kb_str_str, kb_str_tuple, kb_str_list, kb_str_dict, kb_tuple_bool, kb_tuple_int, kb_tuple_str, kb_tuple_tuple, kb_tuple_list, kb_tuple_dict, kb_list_bool, kb_list_int, kb_list_str, kb_list_tuple, kb_list_list, kb_list_dict, kb_dict_bool, kb_dict_int, kb_dict_str, kb_dict_tuple, kb_dict_list, kb_dict_dict, u_cast, q_ixN0, q_ixN1, q_ixN2, q_ixN3, q_ixN4, mput_mput, Option.some.injEq, Dt.lst.injEq, Dt.cel.injEq, Prod.mk.injEq, lk_pl0, lk_pl1, lk_pl2, lk_pl3,  Dt.obj.injEq,  Dt.int.injEq, exists_eq_left', exists_eq_left, exists_and_left, u_mapC, u_mapE,  not_true_eq_false, not_false_eq_true, eq_self, u_size, Nat.reduceLeDiff, Nat.reduceLT, 
    u_set0, u_setS, u_lenC, u_lenN, List.append_nil, u_nilA, u_consA, u_mapS, u_mapN, u_bindS, u_bindN, mput_same,
    true_and, and_true, decide_eq_true_eq, Bool.not_eq_true', decide_eq_false_iff_not, u_notT, u_notF, if_true, if_false, ite_true, ite_false, Bool.false_eq_true, reduceCtorEq, reduceIte, Nat.reduceAdd, $xs,*]))
section
variable {M : Mm} {Q : DQ} {X : DX}
theorem same_loop {f : DSp} {xs : List Dt} {x d : Dt} (hl : xs.length < 2 ^ 61) (h1 : ∀ (i : Nat) (e : Dt) (Q' : DQ), xs[i]? = some e → Q' e M → dIx x (.int i) M Q') (h2 : ∀ (i : Nat) (e : Dt) (Q' : DQ), xs[i]? = some e → Q' e M → dIx d (.int i) M Q')
    (hf : ∀ e ∈ xs, ∀ (Q' : DQ), Q' (.bl true) M → f [e, e] M Q' X0) {D : DEnds} (hq : ∀ z, D.nx [some x, some d, z] M) :
    dForL (dName 2) (dIfS (dNot (dTest (dCall f [] X0 (dCons (dOp dIx (dVar 0) (dVar 2)) (dCons (dOp dIx (dVar 1) (dVar 2)) dNil))))) (dRet (dC (.bl false))) dNext) D (fun _ => True) (rngD 0 xs.length) [some x, some d, none] M := by
  refine for_rng (fun i ds' M' => M' = M ∧ ∃ z, ds' = [some x, some d, z]) (fun i ds' M' N hi hN => ?_) ?_ _ _ ⟨rfl, none, rfl⟩
  · rintro ⟨rfl, z, rfl⟩
    push_cast []
    have e := List.getElem?_eq_getElem hi
    refine h1 i _ _ e ?_
    refine h2 i _ _ e ?_
    refine up_of (hf _ (List.getElem_mem hi) _ ?_)
    push_cast []
    exact hN _ _ ⟨rfl, _, rfl⟩
  · rintro ds' M' ⟨rfl, z, rfl⟩
    exact hq z
theorem ixT_at {xs : List Dt} {i : Nat} {e : Dt} (h : xs[i]? = some e) (hq : Q e M) : dIx (.tup xs) (.int i) M Q := by
  push_cast [atI_of h]
  exact hq
theorem ixL_at {xs : List Dt} {i : Nat} {e : Dt} (h : xs[i]? = some e) (hq : Q e M) : dIx (.lst xs) (.int i) M Q := by
  push_cast [atI_of h]
  exact hq
theorem ixC_at {p : Addr} {xs : List Dt} {i : Nat} {e : Dt} (hp : M p = some (.lst xs)) (h : xs[i]? = some e) (hq : Q e M) : dIx (.cel p) (.int i) M Q := by
  push_cast [hp, atI_of h]
  exact hq
theorem p_same : ∀ (n : Nat) {d x : Dt} {M : Mm} {Q : DQ} {X : DX}, Sm n d → (x = d ∨ ∃ p xs, x = .cel p ∧ d = .lst xs ∧ M p = some (.lst xs)) → Q (.bl true) M → f_law_same n [x, d] M Q X
  | 0, d, x, M, Q, X, hs, _, _ => by cases d <;> exact hs.elim
  | n + 1, d, x, M, Q, X, hs, hx, hq => by
    have bool : ∀ b, d = .bl b → f_law_same (n + 1) [x, d] M Q X := fun b e => by
      subst e
      rcases hx with rfl | ⟨p, xs, rfl, e, _⟩
      · push_cast [f_law_same, b_law_same]
        refine q_eqB ?_
        simpa using hq
      · cases e
    cases d with
    | non =>
      rcases hx with rfl | ⟨p, xs, rfl, e, _⟩
      · push_cast [f_law_same, b_law_same]
        exact hq
      · cases e
    | bl b => exact bool b rfl
    | int i =>
      rcases hx with rfl | ⟨p, xs, rfl, e, _⟩
      · push_cast [f_law_same, b_law_same]
        simpa using hq
      · cases e
    | str i =>
      rcases hx with rfl | ⟨p, xs, rfl, e, _⟩
      · push_cast [f_law_same, b_law_same]
        simpa using hq
      · cases e
    | tup xs =>
      rcases hx with rfl | ⟨p, xs, rfl, e, _⟩
      · obtain ⟨hl, hm⟩ := hs
        push_cast [f_law_same, b_law_same]
        refine ⟨by omega, by omega, ?_⟩
        rw [Int.toNat_natCast]
        refine same_loop hl (fun i e Q' h1 h2 => ixT_at h1 h2) (fun i e Q' h1 h2 => ixT_at h1 h2) (fun e he Q' h => p_same n (hm e he) (.inl rfl) h) fun z => ?_
        push_cast []
        exact hq
      · cases e
    | lst xs =>
      obtain ⟨hl, hm⟩ := hs
      rcases hx with rfl | ⟨p, xs', rfl, e, hp⟩
      · push_cast [f_law_same, b_law_same]
        refine ⟨by omega, by omega, ?_⟩
        rw [Int.toNat_natCast]
        refine same_loop hl (fun i e Q' h1 h2 => ixL_at h1 h2) (fun i e Q' h1 h2 => ixL_at h1 h2) (fun e he Q' h => p_same n (hm e he) (.inl rfl) h) fun z => ?_
        push_cast []
        exact hq
      · cases e
        push_cast [f_law_same, b_law_same, hp]
        refine ⟨by omega, by omega, ?_⟩
        rw [Int.toNat_natCast]
        refine same_loop hl (fun i e Q' h1 h2 => ixC_at hp h1 h2) (fun i e Q' h1 h2 => ixL_at h1 h2) (fun e he Q' h => p_same n (hm e he) (.inl rfl) h) fun z => ?_
        push_cast []
        exact hq
    | ro xs => exact hs.elim
    | dic _ => exact hs.elim
    | obj _ _ => exact hs.elim
    | cel _ => exact hs.elim
/-! counts -/
theorem p_check_count {i lo hi : Int} (h1 : lo ≤ i) (h2 : i ≤ hi) (h : Q (.int i) M) : f_check_count [.int i, .int lo, .int hi] M Q X := by
  push_cast [f_check_count, b_check_count]
  rw [if_neg (by omega)]
  rw [if_neg (by omega)]
  push_cast []
  exact h
theorem p_check_count_bad {d : Dt} {lo hi : Int} (hd : BadC lo hi d) (h : X "BadCount" [("high", .int hi), ("low", .int lo), ("found", d)] M) : f_check_count [d, .int lo, .int hi] M Q X := by
  rcases hd with ⟨i, rfl, hi⟩ | ⟨b, rfl⟩
  · push_cast [f_check_count, b_check_count]
    by_cases hlt : i < lo
    · rw [if_pos hlt]
      push_cast [Nat.reduceLeDiff]
      exact h
    · rw [if_neg hlt, if_pos (by omega)]
      push_cast [Nat.reduceLeDiff]
      exact h
  · push_cast [f_check_count, b_check_count, Nat.reduceLeDiff]
    exact h
theorem p_check_count_rows {i lo hi : Int} (h1 : lo ≤ i) (h2 : i ≤ hi) (h : Q .non M) : f_check_count_rows [.int i, .int lo, .int hi] M Q X := by
  push_cast [f_check_count_rows, b_check_count_rows]
  rw [if_neg (by omega)]
  rw [if_neg (by omega)]
  exact h
/-- 1, 2, 4 .. with the last one cut -/
def dblG : Nat → Nat → Nat → List Int
  | 0, _, _ => []
  | f + 1, rest, full => if rest = 0 then [] else (min rest full : Nat) :: dblG f (rest - full) (full * 2)
def dblL (n : Nat) : List Int := dblG n n 1
theorem dblG_more : ∀ (f rest full : Nat), rest ≤ f → 0 < full → dblG (f + 1) rest full = dblG f rest full
  | 0, rest, full, h, _ => by
    have : rest = 0 := by omega
    subst this; rfl
  | f + 1, rest, full, h, h0 => by
    unfold dblG
    split
    · rfl
    · rw [dblG_more f (rest - full) (full * 2) (by omega) (by omega)]
theorem dblG_fuel : ∀ (f rest full : Nat), rest ≤ f → 0 < full → dblG f rest full = dblG rest rest full
  | 0, rest, full, h, _ => by
    have : rest = 0 := by omega
    subst this; rfl
  | f + 1, rest, full, h, h0 => by
    rcases Nat.lt_or_ge f rest with g | g
    · have : rest = f + 1 := by omega
      subst this; rfl
    · rw [dblG_more f rest full g h0, dblG_fuel f rest full g h0]
theorem dblG_len : ∀ (f rest full : Nat), (dblG f rest full).length ≤ f
  | 0, _, _ => Nat.le_refl _
  | f + 1, rest, full => by
    unfold dblG
    split
    · exact Nat.zero_le _
    · have := dblG_len f (rest - full) (full * 2)
      simp only [List.length_cons]; omega
end


end LK
set_option Elab.async false
set_option linter.all false
set_option maxRecDepth 100000
set_option maxHeartbeats 1000000
namespace LK
open PySem PySem.Spec PyProof.Rows L2 DL
local macro_rules | `(tactic| push_cast [$xs,*]) => `(tactic| repeat (first
  | with_reducible refine hold_i ?_
  | simp only [q_sp, q_st_c, q_st_n, q_st_0, q_seq, q_next, q_drop, q_ret, q_retN, q_ifS, q_break, q_cont, q_asg, q_par, q_name, q_gnil, q_gcons, q_gtup, q_for, q_var0, q_varS, q_c, q_nil, q_cons, q_tup, q_lst, q_newF, q_newT, q_op, q_test,
    q_and, q_or, q_not, q_andV, q_orV, q_notV, q_if, q_call, q_callK, q_cb, q_bm, q_bm0, q_frz, q_frzC, q_neg, q_sub, q_subC, q_lc, q_lc2, q_dc, q_yes, q_wipe0, q_wipeS, q_sl, q_noPart, q_part, q_cutS, q_cutT, q_cutL, q_cutC, q_rvC, q_rvL,
    q_lvC, q_lvL, q_clC, q_sqT, q_sqL, q_sqC, q_addI, q_addS, q_addT, q_addL, q_subI, q_mulI, q_divI, q_modI, q_powI, q_cmpI, q_eqI, q_neI, q_eqStr, q_isN, q_notN, q_ixT, q_ixL, q_ixC, q_ixS, q_at0, q_at1, q_at2, q_at3, q_at4, q_at5, q_at6, q_at7, q_at8, q_at9,
    q_len, q_lenT, q_lenL, q_lenC, q_lenS, q_sum, q_sumA, q_intI, q_intS, q_str, q_abs, q_max, q_min, q_list, q_tuple, q_isi, q_tyN, q_tyB, q_tyI, q_tyS, q_tyT, q_tyL, q_tyC, q_append, q_extend, q_rng1, q_sqi, u_isN, u_isB, u_isI, u_isS, u_isT, u_isL, u_isR, u_isD, u_isO, u_isC, q_frIx0, q_frIx1, q_frTup, q_frTy, q_frLen, q_raise0, q_raiseF, q_isi2, q_make, q_fld, q_setF, q_prop, q_meth, q_callO, q_inD, q_dget, q_inS, q_revS, q_revX, q_enumS, q_enum, q_zip, q_rev, q_rng2, q_rng3, q_insert, q_reverse, q_join, q_isTyS, q_isTyL, q_cntB, q_isTyC, q_isE, q_xf, q_ones, q_callE, q_ovO, q_ovC, q_dvD, q_keyS, q_keyI, q_den, kb_NoneType_bool, kb_NoneType_int, kb_NoneType_str, kb_NoneType_tuple, kb_NoneType_list, kb_NoneType_dict, kb_bool_bool, kb_bool_int, kb_bool_str, kb_bool_tuple, kb_bool_list, kb_bool_dict, kb_int_bool, kb_int_int, kb_int_str, kb_int_tuple, kb_int_list, kb_int_dict, kb_str_bool, kb_str_int, kb_str_str, kb_str_tuple, kb_str_list, kb_str_dict, kb_tuple_bool, kb_tuple_int, kb_tuple_str, kb_tuple_tuple, kb_tuple_list, kb_tuple_dict, kb_list_bool, kb_list_int, kb_list_str, kb_list_tuple, kb_list_list, kb_list_dict, kb_dict_bool, kb_dict_int, kb_dict_str, kb_dict_tuple, kb_dict_list, kb_dict_dict, u_cast, q_ixN0, q_ixN1, q_ixN2, q_ixN3, q_ixN4, mput_mput, Option.some.injEq, Dt.lst.injEq, Dt.cel.injEq, Prod.mk.injEq, lk_pl0, lk_pl1, lk_pl2, lk_pl3,  Dt.obj.injEq,  Dt.int.injEq, exists_eq_left', exists_eq_left, exists_and_left, u_mapC, u_mapE,  not_true_eq_false, not_false_eq_true, eq_self, u_size, Nat.reduceLeDiff, Nat.reduceLT, 
    u_set0, u_setS, u_lenC, u_lenN, List.append_nil, u_nilA, u_consA, u_mapS, u_mapN, u_bindS, u_bindN, mput_same,
    true_and, and_true, decide_eq_true_eq, Bool.not_eq_true', decide_eq_false_iff_not, u_notT, u_notF, if_true, if_false, ite_true, ite_false, Bool.false_eq_true, reduceCtorEq, reduceIte, Nat.reduceAdd, $xs,*]))
local macro_rules | `(tactic| push_cast only [$xs,*]) => `(tactic| (try with_reducible refine hold_i ?_); (simp only [q_sp, q_st_c, q_st_n, q_st_0, q_seq, q_next, q_drop, q_ret, q_retN, q_ifS, q_break, q_cont, q_asg, q_par, q_name, q_gnil, q_gcons, q_gtup, q_for, q_var0, q_varS, q_c, q_nil, q_cons, q_tup, q_lst, q_newF, q_newT, q_op, q_test,
    q_and, q_or, q_not, q_andV, q_orV, q_notV, q_if, q_call, q_callK, q_cb, q_bm, q_bm0, q_frz, q_frzC, q_neg, q_sub, q_subC, q_lc, q_lc2, q_dc, q_yes, q_wipe0, q_wipeS, q_sl, q_noPart, q_part, q_cutS, q_cutT, q_cutL, q_cutC, q_rvC, q_rvL,
    q_lvC, q_lvL, q_clC, q_sqT, q_sqL, q_sqC, q_addI, q_addS, q_addT, q_addL, q_subI, q_mulI, q_divI, q_modI, q_powI, q_cmpI, q_eqI, q_neI, q_eqStr, q_isN, q_notN, q_ixT, q_ixL, q_ixC, q_ixS, q_at0, q_at1, q_at2, q_at3, q_at4, q_at5, q_at6, q_at7, q_at8, q_at9,
    q_len, q_lenT, q_lenL, q_lenC, q_lenS, q_sum, q_sumA, q_intI, q_intS, q_str, q_abs, q_max, q_min, q_list, q_tuple, q_isi, q_tyN, q_tyB, q_tyI, q_tyS, q_tyT, q_tyL, q_tyC, q_append, q_extend, q_rng1, q_sqi, u_isN, u_isB, u_isI, u_isS, u_isT, u_isL, u_isR, u_isD, u_isO, u_isC, q_frIx0, q_frIx1, q_frTup, q_frTy, q_frLen, q_raise0, q_raiseF, q_isi2, q_make, q_fld, q_setF, q_prop, q_meth, q_callO, q_inD, q_dget, q_inS, q_revS, q_revX, q_enumS, q_enum, q_zip, q_rev, q_rng2, q_rng3, q_insert, q_reverse, q_join, q_isTyS, q_isTyL, q_cntB, q_isTyC, q_isE, q_xf, q_ones, q_callE, q_ovO, q_ovC, q_dvD, q_keyS, q_keyI, q_den, kb_NoneType_bool, kb_NoneType_int, kb_NoneType_str, kb_NoneType_tuple, kb_NoneType_list, kb_NoneType_dict, kb_bool_bool, kb_bool_int, kb_bool_str, kb_bool_tuple, kb_bool_list, kb_bool_dict, kb_int_bool, kb_int_int, kb_int_str, kb_int_tuple, kb_int_list, kb_int_dict, kb_str_bool, kb_str_int, kb_str_str, kb_str_tuple, kb_str_list, kb_str_dict, kb_tuple_bool, kb_tuple_int, kb_tuple_str, kb_tuple_tuple, kb_tuple_list, kb_tuple_dict, kb_list_bool, kb_list_int, kb_list_str, kb_list_tuple, kb_list_list, kb_list_dict, kb_dict_bool, kb_dict_int, kb_dict_str, kb_dict_tuple, kb_dict_list, kb_dict_dict, u_cast, q_ixN0, q_ixN1, q_ixN2, q_ixN3, q_ixN4, mput_mput, Option.some.injEq, Dt.lst.injEq, Dt.cel.injEq, Prod.mk.injEq, lk_pl0, lk_pl1, lk_pl2, lk_pl3,  Dt.obj.injEq,  Dt.int.injEq, exists_eq_left', exists_eq_left, exists_and_left, u_mapC, u_mapE,  not_true_eq_false, not_false_eq_true, eq_self, u_size, Nat.reduceLeDiff, Nat.reduceLT, 
    u_set0, u_setS, u_lenC, u_lenN, List.append_nil, u_nilA, u_consA, u_mapS, u_mapN, u_bindS, u_bindN, mput_same,
    true_and, and_true, decide_eq_true_eq, Bool.not_eq_true', decide_eq_false_iff_not, u_notT, u_notF, if_true, if_false, ite_true, ite_false, Bool.false_eq_true, reduceCtorEq, reduceIte, Nat.reduceAdd, $xs,*]))
section
variable {M : Mm} {Q : DQ} {X : DX}
theorem p_most_rounds {w : Nat} (hw : W5 w) (h : Q (.int (mostR w : Nat)) M) : f_most_rounds [.int w] M Q X := by
  push_cast [f_most_rounds, b_most_rounds]
  refine up_of (p_check_count_rows (by have := hw.1; omega) (by have := hw.2; omega) ?_)
  rcases hw.cases with rfl | rfl | rfl | rfl | rfl <;> (push_cast [Int.reduceSub]; exact h)
theorem p_check_shape {w r : Nat} (hw : W5 w) (hr : r ≤ mostR w) (h : Q .non M) : f_check_shape [.int w, .int r] M Q X := by
  push_cast [f_check_shape, b_check_shape]
  refine up_of (p_most_rounds hw ?_)
  refine up_of (p_check_count_rows (by omega) (by omega) ?_)
  push_cast []
  exact h
theorem p_letters {w : Nat} (hw : W5 w) (h : Q (.str (dg (List.range w))) M) : f_letters [.int w] M Q X := by
  push_cast [f_letters, b_letters]
  refine up_of (p_check_count_rows (by have := hw.1; omega) (by have := hw.2; omega) ?_)
  push_cast []
  refine ⟨by decide +kernel, ?_⟩
  rw [letters_dg hw]
  exact h
theorem p_next_texts {w n : Nat} (hw : W5 w) (hn : n ≤ 8) (h : Q (.lst (txs (levT w (n + 1)))) M) : f_next_texts [.lst (txs (levT w n)), .int w] M Q X := by
  push_cast [f_next_texts, b_next_texts]
  refine up_of (p_letters hw ?_)
  push_cast []
  refine lc2_map (α := List Nat) (β := Nat) (fun _ => List.range w) (fun t d => .str (dg (t ++ [d]))) trivial (levT w n) [] (fun t acc K ht hl hk => ?_) ?_ ?_
  · push_cast []
    rw [signs_dg]
    refine lc_map_mem (α := Nat) (fun d => .str (dg (t ++ [d]))) trivial (List.range w) acc (fun d N hd hN => ?_) hl hk
    push_cast [dg_app, dg_len, (levT_mem ht).1]
    exact ⟨by omega, hN⟩
  · rw [List.length_nil, Nat.zero_add, List.length_flatMap]
    simp only [List.length_range]
    rw [List.map_const', List.sum_replicate_nat, levT_len, ← Nat.pow_succ, u_size]
    have := pow_w hw (n := n + 1) (by omega)
    show w ^ (n + 1) ≤ _
    omega
  · push_cast []
    have e : (levT w n).flatMap (fun x => (List.range w).map fun d => Dt.str (dg (x ++ [d]))) = txs (levT w (n + 1)) := by
      show _ = (nxtT w (levT w n)).map _
      unfold nxtT
      rw [List.map_flatMap]
      congr 1
      funext t
      rw [List.map_map]; rfl
    rw [e]
    exact h
theorem p_beginnings_of {w r : Nat} (hw : W5 w) (hr : r ≤ mostR w) (h : Q (.lst (txs (begs w r))) M) : f_beginnings_of [.int r, .int w] M Q X := by
  have h8 := mostR_le (w := w)
  push_cast [f_beginnings_of, b_beginnings_of]
  refine up_of (p_check_shape hw hr ?_)
  push_cast []
  intro p hp
  push_cast []
  refine ⟨by omega, by omega, ?_⟩
  rw [Int.toNat_natCast]
  refine for_rng (fun i ds' M' => (∀ b, b ≠ p → M' b = M b) ∧ M' p = some (.lst (txs (begs w i))) ∧ ∃ z, ds' = [some (.int r), some (.int w), some (.cel p), some (.lst (txs (levT w i))), z]) (fun i ds' M' N hi hN => ?_) ?_ _ _ ⟨fun b hb => mput_ne hb, mput_same, none, by rw [dg_nil]; rfl⟩
  · rintro ⟨hfr, hMp, z, rfl⟩
    push_cast [hMp]
    refine ⟨⟨_, rfl⟩, ?_, ?_⟩
    · unfold txs
      rw [List.length_map, List.length_map, begs_len, levT_len]
      have := small hw (i := i) (by omega)
      omega
    · push_cast []
      refine up_of (p_next_texts hw (by omega) ?_)
      push_cast []
      refine hN _ _ ⟨fun b hb => (mput_ne hb).trans (hfr b hb), ?_, _, rfl⟩
      rw [mput_same]
      unfold begs txs
      rw [List.range_succ, List.flatMap_append, List.flatMap_singleton, List.map_append]
  · rintro ds' M' ⟨hfr, hMp, z, rfl⟩
    push_cast [hMp]
    have e2 : mdel M' p = M := by
      funext b
      by_cases hb : b = p
      · subst hb; unfold mdel; rw [if_pos rfl, hp]
      · rw [mdel_ne hb, hfr b hb]
    rw [e2]
    exact h
theorem p_check_size {n : Nat} (h : Q .non M) : f_check_size [.int n, .int n] M Q X := by
  push_cast [f_check_size, b_check_size]
  exact h
theorem p_has_only {l s : List Nat} (h : Q (.bl (decide (∀ d ∈ l, d ∈ s))) M) : f_has_only [.str (dg l), .str (dg s)] M Q X := by
  push_cast [f_has_only, b_has_only]
  rw [signs_dg]
  refine for_map (α := Nat) (fun r ds' M' => M' = M ∧ (∃ z, ds' = [some (.str (dg l)), some (.str (dg s)), z]) ∧ ((∀ d ∈ l, d ∈ s) ↔ ∀ d ∈ r, d ∈ s)) ?_ ?_ l _ _ ⟨rfl, ⟨none, rfl⟩, Iff.rfl⟩
  · rintro x r ds' M' N hN ⟨rfl, ⟨z, rfl⟩, hl⟩
    refine ⟨trivial, ?_⟩
    push_cast []
    refine ⟨x + 48, rfl, ?_⟩
    push_cast [mem_dg]
    split
    · rename_i hx
      have : ¬ ∀ d ∈ l, d ∈ s := fun g => hx (hl.mp g x List.mem_cons_self)
      rw [decide_eq_false this] at h
      exact h
    · rename_i hx
      refine hN _ _ ⟨rfl, ⟨_, rfl⟩, hl.trans ?_⟩
      constructor
      · intro g d hd; exact g d (List.mem_cons_of_mem _ hd)
      · intro g d hd
        rcases List.mem_cons.mp hd with e | e
        · subst e; exact Classical.not_not.mp hx
        · exact g d e
  · rintro ds' M' ⟨rfl, ⟨z, rfl⟩, hl⟩
    refine ⟨trivial, ?_⟩
    push_cast []
    have : ∀ d ∈ l, d ∈ s := hl.mpr fun d hd => by cases hd
    rw [decide_eq_true this] at h
    exact h
end


end LK
set_option Elab.async false
set_option linter.all false
set_option maxRecDepth 100000
set_option maxHeartbeats 1000000
namespace LK
open PySem PySem.Spec PyProof.Rows L2 DL
local macro_rules | `(tactic| push_cast [$xs,*]) => `(tactic| repeat (first
  | with_reducible refine hold_i ?_
  | simp only [q_sp, q_st_c, q_st_n, q_st_0, q_seq, q_next, q_drop, q_ret, q_retN, q_ifS, q_break, q_cont, q_asg, q_par, q_name, q_gnil, q_gcons, q_gtup, q_for, q_var0, q_varS, q_c, q_nil, q_cons, q_tup, q_lst, q_newF, q_newT, q_op, q_test,
    q_and, q_or, q_not, q_andV, q_orV, q_notV, q_if, q_call, q_callK, q_cb, q_bm, q_bm0, q_frz, q_frzC, q_neg, q_sub, q_subC, q_lc, q_lc2, q_dc, q_yes, q_wipe0, q_wipeS, q_sl, q_noPart, q_part, q_cutS, q_cutT, q_cutL, q_cutC, q_rvC, q_rvL,
    q_lvC, q_lvL, q_clC, q_sqT, q_sqL, q_sqC, q_addI, q_addS, q_addT, q_addL, q_subI, q_mulI, q_divI, q_modI, q_powI, q_cmpI, q_eqI, q_neI, q_eqStr, q_isN, q_notN, q_ixT, q_ixL, q_ixC, q_ixS, q_at0, q_at1, q_at2, q_at3, q_at4, q_at5, q_at6, q_at7, q_at8, q_at9,
    q_len, q_lenT, q_lenL, q_lenC, q_lenS, q_sum, q_sumA, q_intI, q_intS, q_str, q_abs, q_max, q_min, q_list, q_tuple, q_isi, q_tyN, q_tyB, q_tyI, q_tyS, q_tyT, q_tyL, q_tyC, q_append, q_extend, q_rng1, q_sqi, u_isN, u_isB, u_isI, u_isS, u_isT, u_isL, u_isR, u_isD, u_isO, u_isC, q_frIx0, q_frIx1, q_frTup, q_frTy, q_frLen, q_raise0, q_raiseF, q_isi2, q_make, q_fld, q_setF, q_prop, q_meth, q_callO, q_inD, q_dget, q_inS, q_revS, q_revX, q_enumS, q_enum, q_zip, q_rev, q_rng2, q_rng3, q_insert, q_reverse, q_join, q_isTyS, q_isTyL, q_cntB, q_isTyC, q_isE, q_xf, q_ones, q_callE, q_ovO, q_ovC, q_dvD, q_keyS, q_keyI, q_den, kb_NoneType_bool, kb_NoneType_int, kb_NoneType_str, kb_NoneType_tuple, kb_NoneType_list, kb_NoneType_dict, kb_bool_bool, kb_bool_int, kb_bool_str, kb_bool_tuple, kb_bool_list, kb_bool_dict, kb_int_bool, kb_int_int, kb_int_str, kb_int_tuple, kb_int_list, kb_int_dict, kb_str_bool, kb_str_int, kb_str_str, kb_str_tuple, kb_str_list, kb_str_dict, kb_tuple_bool, kb_tuple_int, kb_tuple_str, kb_tuple_tuple, kb_tuple_list, kb_tuple_dict, kb_list_bool, kb_list_int, kb_list_str, kb_list_tuple, kb_list_list, kb_list_dict, kb_dict_bool, kb_dict_int, kb_dict_str, kb_dict_tuple, kb_dict_list, kb_dict_dict, u_cast, q_ixN0, q_ixN1, q_ixN2, q_ixN3, q_ixN4, mput_mput, Option.some.injEq, Dt.lst.injEq, Dt.cel.injEq, Prod.mk.injEq, lk_pl0, lk_pl1, lk_pl2, lk_pl3,  Dt.obj.injEq,  Dt.int.injEq, exists_eq_left', exists_eq_left, exists_and_left, u_mapC, u_mapE,  not_true_eq_false, not_false_eq_true, eq_self, u_size, Nat.reduceLeDiff, Nat.reduceLT, 
    u_set0, u_setS, u_lenC, u_lenN, List.append_nil, u_nilA, u_consA, u_mapS, u_mapN, u_bindS, u_bindN, mput_same,
    true_and, and_true, decide_eq_true_eq, Bool.not_eq_true', decide_eq_false_iff_not, u_notT, u_notF, if_true, if_false, ite_true, ite_false, Bool.false_eq_true, reduceCtorEq, reduceIte, Nat.reduceAdd, $xs,*]))
local macro_rules | `(tactic| push_cast only [$xs,*]) => `(tactic| (try with_reducible refine hold_i ?_); (simp only [q_sp, q_st_c, q_st_n, q_st_0, q_seq, q_next, q_drop, q_ret, q_retN, q_ifS, q_break, q_cont, q_asg, q_par, q_name, q_gnil, q_gcons, q_gtup, q_for, q_var0, q_varS, q_c, q_nil, q_cons, q_tup, q_lst, q_newF, q_newT, q_op, q_test,
    q_and, q_or, q_not, q_andV, q_orV, q_notV, q_if, q_call, q_callK, q_cb, q_bm, q_bm0, q_frz, q_frzC, q_neg, q_sub, q_subC, q_lc, q_lc2, q_dc, q_yes, q_wipe0, q_wipeS, q_sl, q_noPart, q_part, q_cutS, q_cutT, q_cutL, q_cutC, q_rvC, q_rvL,
    q_lvC, q_lvL, q_clC, q_sqT, q_sqL, q_sqC, q_addI, q_addS, q_addT, q_addL, q_subI, q_mulI, q_divI, q_modI, q_powI, q_cmpI, q_eqI, q_neI, q_eqStr, q_isN, q_notN, q_ixT, q_ixL, q_ixC, q_ixS, q_at0, q_at1, q_at2, q_at3, q_at4, q_at5, q_at6, q_at7, q_at8, q_at9,
    q_len, q_lenT, q_lenL, q_lenC, q_lenS, q_sum, q_sumA, q_intI, q_intS, q_str, q_abs, q_max, q_min, q_list, q_tuple, q_isi, q_tyN, q_tyB, q_tyI, q_tyS, q_tyT, q_tyL, q_tyC, q_append, q_extend, q_rng1, q_sqi, u_isN, u_isB, u_isI, u_isS, u_isT, u_isL, u_isR, u_isD, u_isO, u_isC, q_frIx0, q_frIx1, q_frTup, q_frTy, q_frLen, q_raise0, q_raiseF, q_isi2, q_make, q_fld, q_setF, q_prop, q_meth, q_callO, q_inD, q_dget, q_inS, q_revS, q_revX, q_enumS, q_enum, q_zip, q_rev, q_rng2, q_rng3, q_insert, q_reverse, q_join, q_isTyS, q_isTyL, q_cntB, q_isTyC, q_isE, q_xf, q_ones, q_callE, q_ovO, q_ovC, q_dvD, q_keyS, q_keyI, q_den, kb_NoneType_bool, kb_NoneType_int, kb_NoneType_str, kb_NoneType_tuple, kb_NoneType_list, kb_NoneType_dict, kb_bool_bool, kb_bool_int, kb_bool_str, kb_bool_tuple, kb_bool_list, kb_bool_dict, kb_int_bool, kb_int_int, kb_int_str, kb_int_tuple, kb_int_list, kb_int_dict, kb_str_bool, kb_str_int, kb_str_str, kb_str_tuple, kb_str_list, kb_str_dict, kb_tuple_bool, kb_tuple_int, kb_tuple_str, kb_tuple_tuple, kb_tuple_list, kb_tuple_dict, kb_list_bool, kb_list_int, kb_list_str, kb_list_tuple, kb_list_list, kb_list_dict, kb_dict_bool, kb_dict_int, kb_dict_str, kb_dict_tuple, kb_dict_list, kb_dict_dict, u_cast, q_ixN0, q_ixN1, q_ixN2, q_ixN3, q_ixN4, mput_mput, Option.some.injEq, Dt.lst.injEq, Dt.cel.injEq, Prod.mk.injEq, lk_pl0, lk_pl1, lk_pl2, lk_pl3,  Dt.obj.injEq,  Dt.int.injEq, exists_eq_left', exists_eq_left, exists_and_left, u_mapC, u_mapE,  not_true_eq_false, not_false_eq_true, eq_self, u_size, Nat.reduceLeDiff, Nat.reduceLT, 
    u_set0, u_setS, u_lenC, u_lenN, List.append_nil, u_nilA, u_consA, u_mapS, u_mapN, u_bindS, u_bindN, mput_same,
    true_and, and_true, decide_eq_true_eq, Bool.not_eq_true', decide_eq_false_iff_not, u_notT, u_notF, if_true, if_false, ite_true, ite_false, Bool.false_eq_true, reduceCtorEq, reduceIte, Nat.reduceAdd, $xs,*]))
section
variable {M : Mm} {Q : DQ} {X : DX}
theorem p_fraction_num {q : Rat} {d : Dt} (hd : Num q d) (h : Q (fr q) M) : f_fraction [d] M Q X := by
  rcases hd with ⟨i, rfl, rfl⟩ | ⟨a, b, hb, hs, rfl, rfl⟩
  · exact p_fraction_int h
  · exact p_fraction_pair hb hs (by omega) h
theorem p_share_parts {w : Nat} {qs : List Rat} {ds : List Dt} {d : Dt} (hd : d = .lst ds ∨ d = .tup ds) (hw : qs.length = w) (h5 : w ≤ 1000) (hr : Rel2 Num qs ds) (h : Q (shD qs) M) : f_share_parts [.int w, d] M Q X := by
  have e : ds.length = w := by rw [← hr.length, hw]
  have hl : ([] : List Dt).length + ds.length ≤ sizeLine := by rw [e, u_size]; simp only [List.length_nil]; omega
  rcases hd with rfl | rfl
  · push_cast [f_share_parts, b_share_parts, e]
    refine up_of (p_check_size ?_)
    push_cast []
    refine lc_rel2 Num fr trivial (fun q d N hqd hN => ?_) qs ds [] hr hl h
    push_cast []
    exact up_of (p_fraction_num hqd hN)
  · push_cast [f_share_parts, b_share_parts, e]
    refine up_of (p_check_size ?_)
    push_cast []
    refine lc_rel2 Num fr trivial (fun q d N hqd hN => ?_) qs ds [] hr hl h
    push_cast []
    exact up_of (p_fraction_num hqd hN)
theorem p_total_fr {n : Nat} {qs : List Rat} (hq : ∀ q ∈ qs, Sz n q) (hl : (qs.length + 1) * (n + 1) ≤ 3000) (h : Q (fr (sumR qs)) M) : f_total [.tup (frs qs)] M Q X := by
  push_cast [f_total, b_total]
  have key : ∀ (r : List Rat) (m : Nat) (a : Rat), Sz m a → (∀ q ∈ r, Sz n q) → m + r.length * (n + 1) ≤ 3000 → Q (fr (r.foldl (· + ·) a)) M → ∀ z, dForL (dName 2) (dAsg (dCall f_sum_of_two [] X (dCons (dVar 1) (dCons (dCall f_fraction [] X (dCons (dVar 2) dNil)) dNil))) (dName 1)) { nx := hold (dRet (dVar 1)) { nx := fun _ M1 => Q .non M1, rt := Q }, rt := Q } (fun _ => True) (frs r) [some (.tup (frs qs)), some (fr a), z] M := by
    intro r
    induction r with
    | nil =>
      intro m a ha _ _ hq z
      refine ⟨trivial, ?_⟩
      push_cast []
      exact hq
    | cons q r ih =>
      intro m a ha hr hm hq z
      refine ⟨trivial, ?_⟩
      rw [List.length_cons, Nat.succ_mul] at hm
      have sq := hr q List.mem_cons_self
      push_cast []
      refine up_of (p_fraction sq (by omega) ?_)
      push_cast []
      refine up_of (p_sum_of_two ha sq (by omega) ?_)
      push_cast []
      exact ih (m + n + 1) (a + q) (ha.add sq (Nat.le_refl _)) (fun x hx => hr x (List.mem_cons_of_mem _ hx)) (by omega) hq _
  exact key qs 1 0 sz_0 hq (by rw [Nat.succ_mul] at hl; omega) h none
theorem q_frLt0 {q : Rat} : dLtR (.int q.num) (.int 0) M Q = Q (.bl (decide (q < 0))) M := by
  unfold dLtR
  rw [q_cmpI]
  have : (q.num < 0) ↔ q < 0 := by
    rw [← Int.not_le, Rat.num_nonneg, Rat.not_le]
  rw [decide_eq_decide.mpr this]
theorem p_is_sharing {n w : Nat} {qs : List Rat} (hs : Shr n w qs) (hl : (w + 1) * (n + 1) ≤ 3000) (h : Q (.bl true) M) : f_is_sharing [shD qs] M Q X := by
  have e0 : shD qs = .tup (frs qs) := rfl
  push_cast [f_is_sharing, b_is_sharing, e0]
  refine for_map (α := Rat) (fun r ds' M' => M' = M ∧ (∃ z, ds' = [some (.tup (frs qs)), z]) ∧ ∀ q ∈ r, 0 ≤ q) ?_ ?_ qs _ _ ⟨rfl, ⟨none, rfl⟩, hs.pos⟩
  · rintro x r ds' M' N hN ⟨rfl, ⟨z, rfl⟩, hr⟩
    refine ⟨trivial, ?_⟩
    have hx := hr x List.mem_cons_self
    have hn : ¬ x.num < 0 := by have := Rat.num_nonneg.mpr hx; omega
    push_cast [hn]
    exact hN _ _ ⟨rfl, ⟨_, rfl⟩, fun q hq => hr q (List.mem_cons_of_mem _ hq)⟩
  · rintro ds' M' ⟨rfl, ⟨z, rfl⟩, hr⟩
    refine ⟨trivial, ?_⟩
    push_cast []
    refine up_of (p_total_fr hs.sz (by rw [hs.len]; exact hl) ?_)
    push_cast []
    rw [hs.one]
    refine eq_fr (a := 1) (b := 1) ?_
    simpa using h
theorem p_sharing_at {n w : Nat} {qs : List Rat} {ds : List Dt} {d t : Dt} (hd : d = .lst ds ∨ d = .tup ds) (hs : Shr n w qs) (hl : (w + 1) * (n + 1) ≤ 3000) (hw : w ≤ 1000) (hr : Rel2 Num qs ds) (h : Q (shD qs) M) : f_sharing_at [.int w, d, t] M Q X := by
  push_cast [f_sharing_at, b_sharing_at]
  refine up_of (p_share_parts hd hs.len hw hr ?_)
  push_cast []
  refine up_of (p_is_sharing hs hl ?_)
  push_cast []
  exact h
theorem p_Plan_init {n w r : Nat} {S : List (List Rat)} {ys : List Dt} {a : Addr} (hw : W5 w) (hr : r ≤ mostR w) (hS : Shs n w r S) (hn : n ≤ 400) (hy : Rel2 (fun s d => ∃ ds, (d = .lst ds ∨ d = .tup ds) ∧ Rel2 Num s ds) S ys) (hM : M a = some (.obj "Plan" []))
    (h : ∀ M', (∀ b, b ≠ a → M' b = M b) → M' a = some (planD w r S) → Q .non M') : f_Plan___init__ [.cel a, .int w, .int r, .lst ys] M Q X := by
  have h5 := hw.2
  have hb := small hw hr
  have hlen : ys.length = (txs (begs w r)).length := by rw [← hy.length, hS.len]; unfold txs; rw [List.length_map, begs_len]
  push_cast [f_Plan___init__, b_Plan___init__]
  refine up_of (p_beginnings_of hw hr ?_)
  push_cast [hlen]
  refine up_of (p_check_size ?_)
  push_cast []
  refine lc_rel2 (fun (p : List Rat × List Nat) d => ∃ y, d = .tup [y, .str (dg p.2)] ∧ (∃ ds, (y = .lst ds ∨ y = .tup ds) ∧ Rel2 Num p.1 ds) ∧ p.1 ∈ S) (fun p => shD p.1) trivial ?_ (S.zip (begs w r)) (zipD ys (txs (begs w r))) [] ?_ ?_ ?_
  · rintro ⟨s, t⟩ d N ⟨y, rfl, ⟨ds, hyd, hds⟩, hs⟩ hN
    push_cast []
    exact up_of (p_sharing_at hyd (hS.each s hs) (by
      have : (w + 1) * (n + 1) ≤ 6 * 401 := Nat.mul_le_mul (by omega) (by omega)
      omega) (by omega) hds hN)
  · exact Rel2.zip (e := fun t => .str (dg t)) (begs w r) hy.withMem
  · have hz := (Rel2.zip (e := fun t => .str (dg t)) (begs w r) hy).length
    unfold txs
    rw [← hz, List.length_zip, hS.len, u_size, List.length_nil]
    omega
  · rw [List.nil_append, zip_map_fst _ _ (by rw [hS.len, begs_len])]
    push_cast [hM, putD_nil, put_pl1, put_pl2, put_pl3, Nat.reduceLeDiff]
    rw [show zipD (txs (begs w r)) (S.map shD) = ((begs w r).zip S).map fun p => .tup [.str (dg p.1), shD p.2] from zipD_map _ _]
    refine dc_map (α := List Nat × List Rat) (fun p => .inr (dg p.1)) (fun p => shD p.2) trivial _ [] ?_ ?_ ?_ ?_
    · rintro ⟨t, s⟩ N _ hN
      push_cast []
      exact hN _ rfl
    · rw [List.map_nil, List.nil_append, zip_map_fst (f := fun t => (Sum.inr (dg t) : Key)) _ _ (by rw [hS.len, begs_len])]
      exact begs_nodup.map _ fun a b hab e => hab (dg_inj (Sum.inr.inj e))
    · rw [List.length_zip, u_size, List.length_nil, hS.len, begs_len]
      omega
    · push_cast [hM, putD_nil, put_pl1, put_pl2, put_pl3, Nat.reduceLeDiff]
      refine h _ (fun b hb => mput_ne hb) ?_
      rw [mput_same]; rfl
theorem p_Plan_width {w r : Nat} {S : List (List Rat)} (h : Q (.int w) M) : f_Plan_width [planD w r S] M Q X := by
  unfold planD
  push_cast [f_Plan_width, b_Plan_width]
  exact h
theorem p_Plan_rounds {w r : Nat} {S : List (List Rat)} (h : Q (.int r) M) : f_Plan_rounds [planD w r S] M Q X := by
  unfold planD
  push_cast [f_Plan_rounds, b_Plan_rounds]
  exact h
theorem p_Plan_call {w r : Nat} {S : List (List Rat)} {t : List Nat} {s : List Rat} (ht : t ∈ begs w r) (hs : S[idx w t]? = some s) (h : Q (shD s) M) : f_Plan___call__ [planD w r S, .str (dg t)] M Q X := by
  have e := valD_plc ht hs
  unfold planD
  push_cast [f_Plan___call__, b_Plan___call__, e, Option.isSome_some]
  exact h
theorem p_Plan_call_bad {w r : Nat} {S : List (List Rat)} {z : Str} (hz : ∀ t ∈ begs w r, z ≠ dg t) (h : X "BadRow" [("found", .str z)] M) : f_Plan___call__ [planD w r S, .str z] M Q X := by
  have e := not_held (S := S) hz
  unfold planD
  push_cast [f_Plan___call__, b_Plan___call__, e, Option.isSome_none, Nat.reduceLeDiff]
  exact h
end


end LK
set_option Elab.async false
set_option linter.all false
set_option maxRecDepth 100000
set_option maxHeartbeats 1000000
namespace LK
open PySem PySem.Spec PyProof.Rows L2 DL
local macro_rules | `(tactic| push_cast [$xs,*]) => `(tactic| repeat (first
  | with_reducible refine hold_i ?_
  | simp only [q_sp, q_st_c, q_st_n, q_st_0, q_seq, q_next, q_drop, q_ret, q_retN, q_ifS, q_break, q_cont, q_asg, q_par, q_name, q_gnil, q_gcons, q_gtup, q_for, q_var0, q_varS, q_c, q_nil, q_cons, q_tup, q_lst, q_newF, q_newT, q_op, q_test,
    q_and, q_or, q_not, q_andV, q_orV, q_notV, q_if, q_call, q_callK, q_cb, q_bm, q_bm0, q_frz, q_frzC, q_neg, q_sub, q_subC, q_lc, q_lc2, q_dc, q_yes, q_wipe0, q_wipeS, q_sl, q_noPart, q_part, q_cutS, q_cutT, q_cutL, q_cutC, q_rvC, q_rvL,
    q_lvC, q_lvL, q_clC, q_sqT, q_sqL, q_sqC, q_addI, q_addS, q_addT, q_addL, q_subI, q_mulI, q_divI, q_modI, q_powI, q_cmpI, q_eqI, q_neI, q_eqStr, q_isN, q_notN, q_ixT, q_ixL, q_ixC, q_ixS, q_at0, q_at1, q_at2, q_at3, q_at4, q_at5, q_at6, q_at7, q_at8, q_at9,
    q_len, q_lenT, q_lenL, q_lenC, q_lenS, q_sum, q_sumA, q_intI, q_intS, q_str, q_abs, q_max, q_min, q_list, q_tuple, q_isi, q_tyN, q_tyB, q_tyI, q_tyS, q_tyT, q_tyL, q_tyC, q_append, q_extend, q_rng1, q_sqi, u_isN, u_isB, u_isI, u_isS, u_isT, u_isL, u_isR, u_isD, u_isO, u_isC, q_frIx0, q_frIx1, q_frTup, q_frTy, q_frLen, q_raise0, q_raiseF, q_isi2, q_make, q_fld, q_setF, q_prop, q_meth, q_callO, q_inD, q_dget, q_inS, q_revS, q_revX, q_enumS, q_enum, q_zip, q_rev, q_rng2, q_rng3, q_insert, q_reverse, q_join, q_isTyS, q_isTyL, q_cntB, q_isTyC, q_isE, q_xf, q_ones, q_callE, q_ovO, q_ovC, q_dvD, q_keyS, q_keyI, q_den, kb_NoneType_bool, kb_NoneType_int, kb_NoneType_str, kb_NoneType_tuple, kb_NoneType_list, kb_NoneType_dict, kb_bool_bool, kb_bool_int, kb_bool_str, kb_bool_tuple, kb_bool_list, kb_bool_dict, kb_int_bool, kb_int_int, kb_int_str, kb_int_tuple, kb_int_list, kb_int_dict, kb_str_bool, kb_str_int, kb_str_str, kb_str_tuple, kb_str_list, kb_str_dict, kb_tuple_bool, kb_tuple_int, kb_tuple_str, kb_tuple_tuple, kb_tuple_list, kb_tuple_dict, kb_list_bool, kb_list_int, kb_list_str, kb_list_tuple, kb_list_list, kb_list_dict, kb_dict_bool, kb_dict_int, kb_dict_str, kb_dict_tuple, kb_dict_list, kb_dict_dict, u_cast, q_ixN0, q_ixN1, q_ixN2, q_ixN3, q_ixN4, mput_mput, Option.some.injEq, Dt.lst.injEq, Dt.cel.injEq, Prod.mk.injEq, lk_pl0, lk_pl1, lk_pl2, lk_pl3,  Dt.obj.injEq,  Dt.int.injEq, exists_eq_left', exists_eq_left, exists_and_left, u_mapC, u_mapE,  not_true_eq_false, not_false_eq_true, eq_self, u_size, Nat.reduceLeDiff, Nat.reduceLT, 
    u_set0, u_setS, u_lenC, u_lenN, List.append_nil, u_nilA, u_consA, u_mapS, u_mapN, u_bindS, u_bindN, mput_same,
    true_and, and_true, decide_eq_true_eq, Bool.not_eq_true', decide_eq_false_iff_not, u_notT, u_notF, if_true, if_false, ite_true, ite_false, Bool.false_eq_true, reduceCtorEq, reduceIte, Nat.reduceAdd, $xs,*]))
local macro_rules | `(tactic| push_cast only [$xs,*]) => `(tactic| (try with_reducible refine hold_i ?_); (simp only [q_sp, q_st_c, q_st_n, q_st_0, q_seq, q_next, q_drop, q_ret, q_retN, q_ifS, q_break, q_cont, q_asg, q_par, q_name, q_gnil, q_gcons, q_gtup, q_for, q_var0, q_varS, q_c, q_nil, q_cons, q_tup, q_lst, q_newF, q_newT, q_op, q_test,
    q_and, q_or, q_not, q_andV, q_orV, q_notV, q_if, q_call, q_callK, q_cb, q_bm, q_bm0, q_frz, q_frzC, q_neg, q_sub, q_subC, q_lc, q_lc2, q_dc, q_yes, q_wipe0, q_wipeS, q_sl, q_noPart, q_part, q_cutS, q_cutT, q_cutL, q_cutC, q_rvC, q_rvL,
    q_lvC, q_lvL, q_clC, q_sqT, q_sqL, q_sqC, q_addI, q_addS, q_addT, q_addL, q_subI, q_mulI, q_divI, q_modI, q_powI, q_cmpI, q_eqI, q_neI, q_eqStr, q_isN, q_notN, q_ixT, q_ixL, q_ixC, q_ixS, q_at0, q_at1, q_at2, q_at3, q_at4, q_at5, q_at6, q_at7, q_at8, q_at9,
    q_len, q_lenT, q_lenL, q_lenC, q_lenS, q_sum, q_sumA, q_intI, q_intS, q_str, q_abs, q_max, q_min, q_list, q_tuple, q_isi, q_tyN, q_tyB, q_tyI, q_tyS, q_tyT, q_tyL, q_tyC, q_append, q_extend, q_rng1, q_sqi, u_isN, u_isB, u_isI, u_isS, u_isT, u_isL, u_isR, u_isD, u_isO, u_isC, q_frIx0, q_frIx1, q_frTup, q_frTy, q_frLen, q_raise0, q_raiseF, q_isi2, q_make, q_fld, q_setF, q_prop, q_meth, q_callO, q_inD, q_dget, q_inS, q_revS, q_revX, q_enumS, q_enum, q_zip, q_rev, q_rng2, q_rng3, q_insert, q_reverse, q_join, q_isTyS, q_isTyL, q_cntB, q_isTyC, q_isE, q_xf, q_ones, q_callE, q_ovO, q_ovC, q_dvD, q_keyS, q_keyI, q_den, kb_NoneType_bool, kb_NoneType_int, kb_NoneType_str, kb_NoneType_tuple, kb_NoneType_list, kb_NoneType_dict, kb_bool_bool, kb_bool_int, kb_bool_str, kb_bool_tuple, kb_bool_list, kb_bool_dict, kb_int_bool, kb_int_int, kb_int_str, kb_int_tuple, kb_int_list, kb_int_dict, kb_str_bool, kb_str_int, kb_str_str, kb_str_tuple, kb_str_list, kb_str_dict, kb_tuple_bool, kb_tuple_int, kb_tuple_str, kb_tuple_tuple, kb_tuple_list, kb_tuple_dict, kb_list_bool, kb_list_int, kb_list_str, kb_list_tuple, kb_list_list, kb_list_dict, kb_dict_bool, kb_dict_int, kb_dict_str, kb_dict_tuple, kb_dict_list, kb_dict_dict, u_cast, q_ixN0, q_ixN1, q_ixN2, q_ixN3, q_ixN4, mput_mput, Option.some.injEq, Dt.lst.injEq, Dt.cel.injEq, Prod.mk.injEq, lk_pl0, lk_pl1, lk_pl2, lk_pl3,  Dt.obj.injEq,  Dt.int.injEq, exists_eq_left', exists_eq_left, exists_and_left, u_mapC, u_mapE,  not_true_eq_false, not_false_eq_true, eq_self, u_size, Nat.reduceLeDiff, Nat.reduceLT, 
    u_set0, u_setS, u_lenC, u_lenN, List.append_nil, u_nilA, u_consA, u_mapS, u_mapN, u_bindS, u_bindN, mput_same,
    true_and, and_true, decide_eq_true_eq, Bool.not_eq_true', decide_eq_false_iff_not, u_notT, u_notF, if_true, if_false, ite_true, ite_false, Bool.false_eq_true, reduceCtorEq, reduceIte, Nat.reduceAdd, $xs,*]))
section
variable {M : Mm} {Q : DQ} {X : DX}
theorem p_dress {a : Addr} {q : Rat} {n : Nat} (hM : Ok a M) (hq : Sz n q) (hn : n ≤ 3000) (h : ∀ d M', Dr a M M' → Num q d → Q d M') : f_law_dress [.cel a, fr q] M Q X := by
  push_cast [f_law_dress, b_law_dress]
  refine up_of (p_take hM (by decide) fun r M1 hd h0 h1 => ?_)
  push_cast []
  have plain : ∀ M2, Dr a M M2 → Q (.tup [.int q.num, .int q.den]) M2 := fun M2 h2 => h _ M2 h2 (num_fr hq (by omega))
  have mid : ∀ M2, Dr a M M2 → hold (dSeq (dIfS (dAnd (dTest (dOp dGtR (dVar 2) (dC (.int 0)))) (dAnd (dTest (dOp dLtR (dVar 2) (dC (.int 3)))) (dAnd (dTest (dOp dLtR (dCB dAbs (dCons (dOp dIx (dVar 1) (dC (.int 0))) dNil)) (dOp dPowR (dC (.int 10)) (dC (.int 39))))) (dTest (dOp dLtR (dOp dIx (dVar 1) (dC (.int 1))) (dOp dPowR (dC (.int 10)) (dC (.int 39)))))))) (dSeq (dAsg (dOp (dAddR false) (dC (.int 2)) (dCall f_law_take [] X (dCons (dVar 0) (dCons (dC (.int 3)) dNil)))) (dName 3))
    (dRet (dTup (dCons (dOp (dMulR false) (dOp dIx (dVar 1) (dC (.int 0))) (dVar 3)) (dCons (dOp (dMulR false) (dOp dIx (dVar 1) (dC (.int 1))) (dVar 3)) dNil))))) dNext)
    (dRet (dTup (dCons (dOp dIx (dVar 1) (dC (.int 0))) (dCons (dOp dIx (dVar 1) (dC (.int 1))) dNil))))) { nx := fun _ M1 => Q .non M1, rt := Q } [some (.cel a), some (fr q), some (.int r), none] M2 := by
    intro M2 h2
    push_cast [abs_abs]
    by_cases c1 : 0 < r
    · rw [if_pos c1]
      by_cases c2 : r < 3
      · rw [if_pos c2]
        generalize (10 : Int) ^ Int.toNat 39 = B
        refine ⟨⟨by decide, by decide, by decide⟩, ?_⟩
        split
        · refine ⟨⟨by decide, by decide, by decide⟩, ?_⟩
          split
          · push_cast []
            refine up_of (p_take h2.ok (by decide) fun r2 M3 hd2 h02 h12 => ?_)
            push_cast []
            have := h12 (by decide)
            refine ⟨cm_c (by omega) (by omega), cm_c (by omega) (by omega), ?_⟩
            exact h _ M3 (h2.trans hd2) (num_mul hq hn (by omega) (by omega))
          · push_cast []
            exact plain M2 h2
        · push_cast []
          exact plain M2 h2
      · rw [if_neg c2]
        push_cast []
        exact plain M2 h2
    · rw [if_neg c1]
      push_cast []
      exact plain M2 h2
  split
  · split
    · rename_i hden
      exact h _ M1 hd (.inl ⟨q.num, rat_of_den1 (by omega), rfl⟩)
    · exact mid M1 hd
  · exact mid M1 hd
theorem p_dressed {a : Addr} {qs : List Rat} {n : Nat} (hM : Ok a M) (hq : ∀ q ∈ qs, Sz n q) (hn : n ≤ 3000) (hl : qs.length ≤ 1000) (h : ∀ ds M', Dr a M M' → Rel2 Num qs ds → Q (.lst ds) M') : f_law_dressed [.cel a, .lst (frs qs)] M Q X := by
  push_cast [f_law_dressed, b_law_dressed]
  refine lc_rel_mem (α := Rat) Num (fun M' => Dr a M M') (fun _ _ => trivial) qs [] M (fun q M' N hm hM' hN => ?_) (.refl hM) (by rw [u_size, List.length_nil]; omega) fun ys M3 hd3 hys => ?_
  · push_cast []
    exact up_of (p_dress hM'.ok (hq q hm) hn fun d M'' hd hnum => hN _ _ (hM'.trans hd) hnum)
  · push_cast []
    exact h ys M3 hd3 hys
theorem p_free {a : Addr} {l : List Nat} {n : Nat} (hM : Ok a M) (hl : l ≠ []) (hl2 : l.length ≤ 1000) (hn : n ≤ 1000) (h : ∀ t M', Dr a M M' → t.length = n → (∀ c ∈ t, c ∈ l) → Q (.str (mkS t)) M') : f_law_free [.cel a, .str (mkS l), .int n] M Q X := by
  have hpos : 0 < l.length := List.length_pos_iff.mpr hl
  have e0 : (Str.ofString "" : Str) = mkS [] := by decide +kernel
  push_cast [f_law_free, b_law_free]
  refine ⟨by omega, by omega, ?_⟩
  rw [Int.toNat_natCast]
  refine for_rng (fun i ds' M' => Dr a M M' ∧ ∃ (t : List Nat) (z : Option Dt), ds' = [some (.cel a), some (.str (mkS l)), some (.int n), some (.str (mkS t)), z] ∧ t.length = i ∧ ∀ c ∈ t, c ∈ l) (fun i ds' M' N hi hN => ?_) ?_ _ _ ⟨.refl hM, [], none, by rw [e0], rfl, fun _ h => by cases h⟩
  · rintro ⟨hd, t, z, rfl, ht, hc⟩
    push_cast [mkS_len]
    rw [if_pos (by omega)]
    push_cast []
    refine up_of (p_take hd.ok (by omega) fun r M1 hd1 h0 h1 => ?_)
    obtain ⟨j, rfl⟩ := Int.eq_ofNat_of_zero_le h0
    have hj : j < l.length := by have := h1 (by omega); omega
    push_cast [mkS_list, atI_of (List.getElem?_eq_getElem hj), mkS_len]
    refine ⟨by omega, ?_⟩
    have e1 : (⟨#[l[j]]⟩ : Str) = mkS [l[j]] := rfl
    rw [e1, mkS_app, mkS_len]
    refine ⟨by simp only [List.length_cons, List.length_nil]; omega, hN _ _ ⟨hd.trans hd1, t ++ [l[j]], _, rfl, by simp [ht], fun c hc2 => ?_⟩⟩
    rcases List.mem_append.mp hc2 with hc2 | hc2
    · exact hc c hc2
    · have : c = l[j] := by simpa using hc2
      rw [this]; exact List.getElem_mem hj
  · rintro ds' M' ⟨hd, t, z, rfl, ht, hc⟩
    push_cast []
    exact h t M' hd ht hc
end


end LK
set_option Elab.async false
set_option linter.all false
set_option maxRecDepth 100000
set_option maxHeartbeats 1000000
namespace LK
open PySem PySem.Spec PyProof.Rows L2 DL
local macro_rules | `(tactic| push_cast [$xs,*]) => `(tactic| repeat (first
  | with_reducible refine hold_i ?_
  | simp only [q_sp, q_st_c, q_st_n, q_st_0, q_seq, q_next, q_drop, q_ret, q_retN, q_ifS, q_break, q_cont, q_asg, q_par, q_name, q_gnil, q_gcons, q_gtup, q_for, q_var0, q_varS, q_c, q_nil, q_cons, q_tup, q_lst, q_newF, q_newT, q_op, q_test,
    q_and, q_or, q_not, q_andV, q_orV, q_notV, q_if, q_call, q_callK, q_cb, q_bm, q_bm0, q_frz, q_frzC, q_neg, q_sub, q_subC, q_lc, q_lc2, q_dc, q_yes, q_wipe0, q_wipeS, q_sl, q_noPart, q_part, q_cutS, q_cutT, q_cutL, q_cutC, q_rvC, q_rvL,
    q_lvC, q_lvL, q_clC, q_sqT, q_sqL, q_sqC, q_addI, q_addS, q_addT, q_addL, q_subI, q_mulI, q_divI, q_modI, q_powI, q_cmpI, q_eqI, q_neI, q_eqStr, q_isN, q_notN, q_ixT, q_ixL, q_ixC, q_ixS, q_at0, q_at1, q_at2, q_at3, q_at4, q_at5, q_at6, q_at7, q_at8, q_at9,
    q_len, q_lenT, q_lenL, q_lenC, q_lenS, q_sum, q_sumA, q_intI, q_intS, q_str, q_abs, q_max, q_min, q_list, q_tuple, q_isi, q_tyN, q_tyB, q_tyI, q_tyS, q_tyT, q_tyL, q_tyC, q_append, q_extend, q_rng1, q_sqi, u_isN, u_isB, u_isI, u_isS, u_isT, u_isL, u_isR, u_isD, u_isO, u_isC, q_frIx0, q_frIx1, q_frTup, q_frTy, q_frLen, q_raise0, q_raiseF, q_isi2, q_make, q_fld, q_setF, q_prop, q_meth, q_callO, q_inD, q_dget, q_inS, q_revS, q_revX, q_enumS, q_enum, q_zip, q_rev, q_rng2, q_rng3, q_insert, q_reverse, q_join, q_isTyS, q_isTyL, q_cntB, q_isTyC, q_isE, q_xf, q_ones, q_callE, q_ovO, q_ovC, q_dvD, q_keyS, q_keyI, q_den, kb_NoneType_bool, kb_NoneType_int, kb_NoneType_str, kb_NoneType_tuple, kb_NoneType_list, kb_NoneType_dict, kb_bool_bool, kb_bool_int, kb_bool_str, kb_bool_tuple, kb_bool_list, kb_bool_dict, kb_int_bool, kb_int_int, kb_int_str, kb_int_tuple, kb_int_list, kb_int_dict, kb_str_bool, kb_str_int, kb_str_str, kb_str_tuple, kb_str_list, kb_str_dict, kb_tuple_bool, kb_tuple_int, kb_tuple_str, kb_tuple_tuple, kb_tuple_list, kb_tuple_dict, kb_list_bool, kb_list_int, kb_list_str, kb_list_tuple, kb_list_list, kb_list_dict, kb_dict_bool, kb_dict_int, kb_dict_str, kb_dict_tuple, kb_dict_list, kb_dict_dict, u_cast, q_ixN0, q_ixN1, q_ixN2, q_ixN3, q_ixN4, mput_mput, Option.some.injEq, Dt.lst.injEq, Dt.cel.injEq, Prod.mk.injEq, lk_pl0, lk_pl1, lk_pl2, lk_pl3,  Dt.obj.injEq,  Dt.int.injEq, exists_eq_left', exists_eq_left, exists_and_left, u_mapC, u_mapE,  not_true_eq_false, not_false_eq_true, eq_self, u_size, Nat.reduceLeDiff, Nat.reduceLT, 
    u_set0, u_setS, u_lenC, u_lenN, List.append_nil, u_nilA, u_consA, u_mapS, u_mapN, u_bindS, u_bindN, mput_same,
    true_and, and_true, decide_eq_true_eq, Bool.not_eq_true', decide_eq_false_iff_not, u_notT, u_notF, if_true, if_false, ite_true, ite_false, Bool.false_eq_true, reduceCtorEq, reduceIte, Nat.reduceAdd, $xs,*]))
local macro_rules | `(tactic| push_cast only [$xs,*]) => `(tactic| (try with_reducible refine hold_i ?_); (simp only [q_sp, q_st_c, q_st_n, q_st_0, q_seq, q_next, q_drop, q_ret, q_retN, q_ifS, q_break, q_cont, q_asg, q_par, q_name, q_gnil, q_gcons, q_gtup, q_for, q_var0, q_varS, q_c, q_nil, q_cons, q_tup, q_lst, q_newF, q_newT, q_op, q_test,
    q_and, q_or, q_not, q_andV, q_orV, q_notV, q_if, q_call, q_callK, q_cb, q_bm, q_bm0, q_frz, q_frzC, q_neg, q_sub, q_subC, q_lc, q_lc2, q_dc, q_yes, q_wipe0, q_wipeS, q_sl, q_noPart, q_part, q_cutS, q_cutT, q_cutL, q_cutC, q_rvC, q_rvL,
    q_lvC, q_lvL, q_clC, q_sqT, q_sqL, q_sqC, q_addI, q_addS, q_addT, q_addL, q_subI, q_mulI, q_divI, q_modI, q_powI, q_cmpI, q_eqI, q_neI, q_eqStr, q_isN, q_notN, q_ixT, q_ixL, q_ixC, q_ixS, q_at0, q_at1, q_at2, q_at3, q_at4, q_at5, q_at6, q_at7, q_at8, q_at9,
    q_len, q_lenT, q_lenL, q_lenC, q_lenS, q_sum, q_sumA, q_intI, q_intS, q_str, q_abs, q_max, q_min, q_list, q_tuple, q_isi, q_tyN, q_tyB, q_tyI, q_tyS, q_tyT, q_tyL, q_tyC, q_append, q_extend, q_rng1, q_sqi, u_isN, u_isB, u_isI, u_isS, u_isT, u_isL, u_isR, u_isD, u_isO, u_isC, q_frIx0, q_frIx1, q_frTup, q_frTy, q_frLen, q_raise0, q_raiseF, q_isi2, q_make, q_fld, q_setF, q_prop, q_meth, q_callO, q_inD, q_dget, q_inS, q_revS, q_revX, q_enumS, q_enum, q_zip, q_rev, q_rng2, q_rng3, q_insert, q_reverse, q_join, q_isTyS, q_isTyL, q_cntB, q_isTyC, q_isE, q_xf, q_ones, q_callE, q_ovO, q_ovC, q_dvD, q_keyS, q_keyI, q_den, kb_NoneType_bool, kb_NoneType_int, kb_NoneType_str, kb_NoneType_tuple, kb_NoneType_list, kb_NoneType_dict, kb_bool_bool, kb_bool_int, kb_bool_str, kb_bool_tuple, kb_bool_list, kb_bool_dict, kb_int_bool, kb_int_int, kb_int_str, kb_int_tuple, kb_int_list, kb_int_dict, kb_str_bool, kb_str_int, kb_str_str, kb_str_tuple, kb_str_list, kb_str_dict, kb_tuple_bool, kb_tuple_int, kb_tuple_str, kb_tuple_tuple, kb_tuple_list, kb_tuple_dict, kb_list_bool, kb_list_int, kb_list_str, kb_list_tuple, kb_list_list, kb_list_dict, kb_dict_bool, kb_dict_int, kb_dict_str, kb_dict_tuple, kb_dict_list, kb_dict_dict, u_cast, q_ixN0, q_ixN1, q_ixN2, q_ixN3, q_ixN4, mput_mput, Option.some.injEq, Dt.lst.injEq, Dt.cel.injEq, Prod.mk.injEq, lk_pl0, lk_pl1, lk_pl2, lk_pl3,  Dt.obj.injEq,  Dt.int.injEq, exists_eq_left', exists_eq_left, exists_and_left, u_mapC, u_mapE,  not_true_eq_false, not_false_eq_true, eq_self, u_size, Nat.reduceLeDiff, Nat.reduceLT, 
    u_set0, u_setS, u_lenC, u_lenN, List.append_nil, u_nilA, u_consA, u_mapS, u_mapN, u_bindS, u_bindN, mput_same,
    true_and, and_true, decide_eq_true_eq, Bool.not_eq_true', decide_eq_false_iff_not, u_notT, u_notF, if_true, if_false, ite_true, ite_false, Bool.false_eq_true, reduceCtorEq, reduceIte, Nat.reduceAdd, $xs,*]))
section
variable {M : Mm} {Q : DQ} {X : DX}
theorem dr_del {a p : Addr} {M M1 : Mm} (hd : Dr a M M1) (hpa : p ≠ a) (hp : M p = none) : Dr a M (mdel M1 p) :=
  ⟨by obtain ⟨s, e, k⟩ := hd.ok; exact ⟨s, (mdel_ne (Ne.symm hpa)).trans e, k⟩, fun b d hb e => (mdel_ne (ne_new e hp)).trans (hd.fr b d hb e)⟩
theorem p_lengths {a : Addr} {n : Nat} (hM : Ok a M) (hn : n ≤ 8) (h : ∀ ks M', Dr a M M' → Lens n ks → ks.length ≤ 12 → Q (.lst (lenD' ks)) M') : f_law_lengths [.cel a, .int n] M Q X := by
  push_cast [f_law_lengths, b_law_lengths]
  intro p hp
  have hpa := hM.ne hp
  push_cast []
  refine ⟨by decide, by decide, ?_⟩
  have hd0 : Dr a M (mput M p (.lst [])) := (Dr.refl hM).new hp
  refine for_rng (n := 8) (fun i ds' M' => Dr a M M' ∧ ∃ (ks : List Nat) (rest : Nat) (z1 z2 : Option Dt), ds' = [some (.cel a), some (.int n), some (.cel p), some (.int rest), z1, z2] ∧ M' p = some (.lst (lenD' ks)) ∧ (∀ k ∈ ks, 1 ≤ k ∧ k ≤ 8) ∧ ks.sum + rest = n ∧ (rest = 0 ∨ rest + i ≤ n) ∧ ks.length ≤ i) (fun i ds' M' N hi hN => ?_) ?_ _ _ ⟨hd0, [], n, none, none, rfl, mput_same, (fun _ h => by cases h), by simp, by omega, Nat.le_refl _⟩
  · rintro ⟨hd, ks, rest, z1, z2, rfl, hMp, hks, hsum, hrest, hlen⟩
    push_cast []
    split
    · push_cast []
      refine up_of (p_edge hd.ok (by omega) fun r M1 hd1 h0 h1 => ?_)
      obtain ⟨j, rfl⟩ := Int.eq_ofNat_of_zero_le h0
      have hj := h1 (by omega)
      have hMp1 := hd1.keep hpa hMp
      push_cast [hMp1]
      have e1 : (lenD' ks).length = ks.length := List.length_map _
      refine ⟨⟨_, rfl⟩, by rw [e1]; omega, ?_⟩
      push_cast []
      refine hN _ _ ⟨(hd.trans hd1).wr hpa hp, ks ++ [1 + j], rest - (1 + j), some (.int i), some (.int (1 + j)), ?_, ?_, ?_, ?_, by omega, ?_⟩
      · rw [Int.natCast_sub (by omega)]; rfl
      · rw [mput_same]
        unfold lenD'
        rw [List.map_append]; rfl
      · intro k hk
        rcases List.mem_append.mp hk with hk | hk
        · exact hks k hk
        · have : k = 1 + j := by simpa using hk
          omega
      · rw [List.sum_append]
        simp only [List.sum_cons, List.sum_nil]; omega
      · simp only [List.length_append, List.length_cons, List.length_nil]; omega
    · rename_i hr
      have : rest = 0 := by omega
      subst this
      exact hN _ _ ⟨hd, ks, 0, _, _, rfl, hMp, hks, hsum, .inl rfl, by omega⟩
  · rintro ds' M' ⟨hd, ks, rest, z1, z2, rfl, hMp, hks, hsum, hrest, hlen⟩
    have : rest = 0 := by omega
    subst this
    push_cast []
    refine up_of (p_take hd.ok (by decide) fun m M1 hd1 h0 h1 => ?_)
    obtain ⟨m, rfl⟩ := Int.eq_ofNat_of_zero_le h0
    have hm := h1 (by decide)
    push_cast []
    refine ⟨by omega, by omega, ?_⟩
    rw [Int.toNat_natCast]
    refine for_rng (n := m) (fun i ds' M' => Dr a M M' ∧ ∃ (ks : List Nat) (z1 : Option Dt), ds' = [some (.cel a), some (.int n), some (.cel p), some (.int (0 : Nat)), z1, z2] ∧ M' p = some (.lst (lenD' ks)) ∧ Lens n ks ∧ ks.length ≤ 8 + i) (fun i ds' M' N hi hN => ?_) ?_ _ _ ⟨hd.trans hd1, ks, z1, rfl, hd1.keep hpa hMp, ⟨fun k hk => (hks k hk).2, by omega⟩, by omega⟩
    · rintro ⟨hd2, ks, z1, rfl, hMp, hL, hlen⟩
      have e1 : (lenD' ks).length = ks.length := List.length_map _
      push_cast [hMp]
      refine ⟨⟨_, rfl⟩, ?_⟩
      rw [e1]
      refine up_of (p_take hd2.ok (by omega) fun j M2 hd3 h0 h1 => ?_)
      obtain ⟨j, rfl⟩ := Int.eq_ofNat_of_zero_le h0
      have hj := h1 (by omega)
      have hMp2 := hd3.keep hpa hMp
      push_cast [hMp2]
      refine ⟨by rw [e1]; omega, by omega, by omega, ?_⟩
      refine hN _ _ ⟨(hd2.trans hd3).wr hpa hp, ks.take j ++ [0] ++ ks.drop j, _, rfl, ?_, ?_, ?_⟩
      · rw [mput_same, Int.toNat_natCast]
        unfold lenD'
        rw [List.map_append, List.map_append, List.map_take, List.map_drop]; rfl
      · refine ⟨fun k hk => ?_, ?_⟩
        · rcases List.mem_append.mp hk with hk | hk
          · rcases List.mem_append.mp hk with hk | hk
            · exact hL.le k (List.mem_of_mem_take hk)
            · have : k = 0 := by simpa using hk
              omega
          · exact hL.le k (List.mem_of_mem_drop hk)
        · rw [List.sum_append, List.sum_append]
          have := congrArg List.sum (List.take_append_drop j ks)
          rw [List.sum_append] at this
          simp only [List.sum_cons, List.sum_nil]
          rw [← hL.sum]; omega
      · simp only [List.length_append, List.length_cons, List.length_nil, List.length_take, List.length_drop]; omega
    · rintro ds' M' ⟨hd2, ks, z1, rfl, hMp, hL, hlen⟩
      push_cast [hMp]
      exact h ks (mdel M' p) (dr_del hd2 hpa hp) hL (by omega)
end


end LK
set_option Elab.async false
set_option linter.all false
set_option maxRecDepth 100000
set_option maxHeartbeats 1000000
namespace LK
open PySem PySem.Spec PyProof.Rows L2 DL
local macro_rules | `(tactic| push_cast [$xs,*]) => `(tactic| repeat (first
  | with_reducible refine hold_i ?_
  | simp only [q_sp, q_st_c, q_st_n, q_st_0, q_seq, q_next, q_drop, q_ret, q_retN, q_ifS, q_break, q_cont, q_asg, q_par, q_name, q_gnil, q_gcons, q_gtup, q_for, q_var0, q_varS, q_c, q_nil, q_cons, q_tup, q_lst, q_newF, q_newT, q_op, q_test,
    q_and, q_or, q_not, q_andV, q_orV, q_notV, q_if, q_call, q_callK, q_cb, q_bm, q_bm0, q_frz, q_frzC, q_neg, q_sub, q_subC, q_lc, q_lc2, q_dc, q_yes, q_wipe0, q_wipeS, q_sl, q_noPart, q_part, q_cutS, q_cutT, q_cutL, q_cutC, q_rvC, q_rvL,
    q_lvC, q_lvL, q_clC, q_sqT, q_sqL, q_sqC, q_addI, q_addS, q_addT, q_addL, q_subI, q_mulI, q_divI, q_modI, q_powI, q_cmpI, q_eqI, q_neI, q_eqStr, q_isN, q_notN, q_ixT, q_ixL, q_ixC, q_ixS, q_at0, q_at1, q_at2, q_at3, q_at4, q_at5, q_at6, q_at7, q_at8, q_at9,
    q_len, q_lenT, q_lenL, q_lenC, q_lenS, q_sum, q_sumA, q_intI, q_intS, q_str, q_abs, q_max, q_min, q_list, q_tuple, q_isi, q_tyN, q_tyB, q_tyI, q_tyS, q_tyT, q_tyL, q_tyC, q_append, q_extend, q_rng1, q_sqi, u_isN, u_isB, u_isI, u_isS, u_isT, u_isL, u_isR, u_isD, u_isO, u_isC, q_frIx0, q_frIx1, q_frTup, q_frTy, q_frLen, q_raise0, q_raiseF, q_isi2, q_make, q_fld, q_setF, q_prop, q_meth, q_callO, q_inD, q_dget, q_inS, q_revS, q_revX, q_enumS, q_enum, q_zip, q_rev, q_rng2, q_rng3, q_insert, q_reverse, q_join, q_isTyS, q_isTyL, q_cntB, q_isTyC, q_isE, q_xf, q_ones, q_callE, q_ovO, q_ovC, q_dvD, q_keyS, q_keyI, q_den, kb_NoneType_bool, kb_NoneType_int, kb_NoneType_str, kb_NoneType_tuple, kb_NoneType_list, kb_NoneType_dict, kb_bool_bool, kb_bool_int, kb_bool_str, kb_bool_tuple, kb_bool_list, kb_bool_dict, kb_int_bool, kb_int_int, kb_int_str, kb_int_tuple, kb_int_list, kb_int_dict, kb_str_bool, kb_str_int, kb_str_str, kb_str_tuple, kb_str_list, kb_str_dict, kb_tuple_bool, kb_tuple_int, kb_tuple_str, kb_tuple_tuple, kb_tuple_list, kb_tuple_dict, kb_list_bool, kb_list_int, kb_list_str, kb_list_tuple, kb_list_list, kb_list_dict, kb_dict_bool, kb_dict_int, kb_dict_str, kb_dict_tuple, kb_dict_list, kb_dict_dict, u_cast, q_ixN0, q_ixN1, q_ixN2, q_ixN3, q_ixN4, mput_mput, Option.some.injEq, Dt.lst.injEq, Dt.cel.injEq, Prod.mk.injEq, lk_pl0, lk_pl1, lk_pl2, lk_pl3,  Dt.obj.injEq,  Dt.int.injEq, exists_eq_left', exists_eq_left, exists_and_left, u_mapC, u_mapE,  not_true_eq_false, not_false_eq_true, eq_self, u_size, Nat.reduceLeDiff, Nat.reduceLT, 
    u_set0, u_setS, u_lenC, u_lenN, List.append_nil, u_nilA, u_consA, u_mapS, u_mapN, u_bindS, u_bindN, mput_same,
    true_and, and_true, decide_eq_true_eq, Bool.not_eq_true', decide_eq_false_iff_not, u_notT, u_notF, if_true, if_false, ite_true, ite_false, Bool.false_eq_true, reduceCtorEq, reduceIte, Nat.reduceAdd, $xs,*]))
local macro_rules | `(tactic| push_cast only [$xs,*]) => `(tactic| (try with_reducible refine hold_i ?_); (simp only [q_sp, q_st_c, q_st_n, q_st_0, q_seq, q_next, q_drop, q_ret, q_retN, q_ifS, q_break, q_cont, q_asg, q_par, q_name, q_gnil, q_gcons, q_gtup, q_for, q_var0, q_varS, q_c, q_nil, q_cons, q_tup, q_lst, q_newF, q_newT, q_op, q_test,
    q_and, q_or, q_not, q_andV, q_orV, q_notV, q_if, q_call, q_callK, q_cb, q_bm, q_bm0, q_frz, q_frzC, q_neg, q_sub, q_subC, q_lc, q_lc2, q_dc, q_yes, q_wipe0, q_wipeS, q_sl, q_noPart, q_part, q_cutS, q_cutT, q_cutL, q_cutC, q_rvC, q_rvL,
    q_lvC, q_lvL, q_clC, q_sqT, q_sqL, q_sqC, q_addI, q_addS, q_addT, q_addL, q_subI, q_mulI, q_divI, q_modI, q_powI, q_cmpI, q_eqI, q_neI, q_eqStr, q_isN, q_notN, q_ixT, q_ixL, q_ixC, q_ixS, q_at0, q_at1, q_at2, q_at3, q_at4, q_at5, q_at6, q_at7, q_at8, q_at9,
    q_len, q_lenT, q_lenL, q_lenC, q_lenS, q_sum, q_sumA, q_intI, q_intS, q_str, q_abs, q_max, q_min, q_list, q_tuple, q_isi, q_tyN, q_tyB, q_tyI, q_tyS, q_tyT, q_tyL, q_tyC, q_append, q_extend, q_rng1, q_sqi, u_isN, u_isB, u_isI, u_isS, u_isT, u_isL, u_isR, u_isD, u_isO, u_isC, q_frIx0, q_frIx1, q_frTup, q_frTy, q_frLen, q_raise0, q_raiseF, q_isi2, q_make, q_fld, q_setF, q_prop, q_meth, q_callO, q_inD, q_dget, q_inS, q_revS, q_revX, q_enumS, q_enum, q_zip, q_rev, q_rng2, q_rng3, q_insert, q_reverse, q_join, q_isTyS, q_isTyL, q_cntB, q_isTyC, q_isE, q_xf, q_ones, q_callE, q_ovO, q_ovC, q_dvD, q_keyS, q_keyI, q_den, kb_NoneType_bool, kb_NoneType_int, kb_NoneType_str, kb_NoneType_tuple, kb_NoneType_list, kb_NoneType_dict, kb_bool_bool, kb_bool_int, kb_bool_str, kb_bool_tuple, kb_bool_list, kb_bool_dict, kb_int_bool, kb_int_int, kb_int_str, kb_int_tuple, kb_int_list, kb_int_dict, kb_str_bool, kb_str_int, kb_str_str, kb_str_tuple, kb_str_list, kb_str_dict, kb_tuple_bool, kb_tuple_int, kb_tuple_str, kb_tuple_tuple, kb_tuple_list, kb_tuple_dict, kb_list_bool, kb_list_int, kb_list_str, kb_list_tuple, kb_list_list, kb_list_dict, kb_dict_bool, kb_dict_int, kb_dict_str, kb_dict_tuple, kb_dict_list, kb_dict_dict, u_cast, q_ixN0, q_ixN1, q_ixN2, q_ixN3, q_ixN4, mput_mput, Option.some.injEq, Dt.lst.injEq, Dt.cel.injEq, Prod.mk.injEq, lk_pl0, lk_pl1, lk_pl2, lk_pl3,  Dt.obj.injEq,  Dt.int.injEq, exists_eq_left', exists_eq_left, exists_and_left, u_mapC, u_mapE,  not_true_eq_false, not_false_eq_true, eq_self, u_size, Nat.reduceLeDiff, Nat.reduceLT, 
    u_set0, u_setS, u_lenC, u_lenN, List.append_nil, u_nilA, u_consA, u_mapS, u_mapN, u_bindS, u_bindN, mput_same,
    true_and, and_true, decide_eq_true_eq, Bool.not_eq_true', decide_eq_false_iff_not, u_notT, u_notF, if_true, if_false, ite_true, ite_false, Bool.false_eq_true, reduceCtorEq, reduceIte, Nat.reduceAdd, $xs,*]))
section
variable {M : Mm} {Q : DQ} {X : DX}
/-- texts of w outcomes -/
def Dig (w : Nat) (t : List Nat) : Prop := ∀ d ∈ t, d < w
theorem Dig.take {w n : Nat} {t : List Nat} (h : Dig w t) : Dig w (t.take n) := fun d hd => h d (List.mem_of_mem_take hd)
theorem p_misses_on {n w r : Nat} {S : List (List Rat)} {t : List Nat} (hw : W5 w) (hr : r ≤ mostR w) (hS : Shs n w r S) (hn : 1 ≤ n) (hn2 : n ≤ 400) (ht : Dig w t) (hl : t.length ≤ r) (h : Q (fr (missOn w S t)) M) :
    f_law_misses_on [.int w, .lst (S.map fun s => .lst (frs s)), .str (dg t)] M Q X := by
  have h8 := mostR_le (w := w)
  have h5 := hw.2
  have e01 : (Dt.tup [.int 0, .int 1]) = fr 0 := rfl
  have e11 : (Dt.tup [.int 1, .int 1]) = fr 1 := rfl
  push_cast [f_law_misses_on, b_law_misses_on, e01]
  rw [signs_dg]
  refine for_map (α := Nat) (fun rest ds' M' => M' = M ∧ ∃ (pre : List Nat) (z : Option Dt), t = pre ++ rest ∧ ds' = [some (.int w), some (.lst (S.map fun s => .lst (frs s))), some (.str (dg t)), some (fr (missOn w S pre)), some (.int (idx w pre)), z]) ?_ ?_ t _ _ ⟨rfl, [], none, rfl, rfl⟩
  · rintro d rest ds' M' N hN ⟨rfl, pre, z, rfl, rfl⟩
    refine ⟨trivial, ?_⟩
    have hd : d < w := ht d (List.mem_append_right _ List.mem_cons_self)
    have hpre : pre ∈ begs w r := begs_mem.mpr ⟨by rw [List.length_append, List.length_cons] at hl; omega, fun e he => ht e (List.mem_append_left _ he)⟩
    obtain ⟨s, hs1, hs2⟩ := sh_here hS hpre hd
    have e1 : (S.map fun s => Dt.lst (frs s))[idx w pre]? = some (.lst (frs s)) := by rw [List.getElem?_map, hs1]; rfl
    have e2 : (frs s)[d]? = some (fr (shAt S (idx w pre) d)) := by unfold DL.frs; rw [List.getElem?_map, hs2]; rfl
    push_cast [atI_of e1, e11]
    refine ⟨_, digit_int (d := d) (by omega), by rw [dg_len]; simp, ?_⟩
    push_cast [atI_of e2]
    have z1 := sh_sz hS hn (a := idx w pre) (d := d)
    refine up_of (p_minus sz_1 z1 (by omega) ?_)
    push_cast []
    have z2 : Sz (1 + pre.length * (n + 2 + 1)) (missOn w S pre) := by
      have := sz_sumR (st_sz hS hn pre 0)
      rw [stF_len] at this
      exact this
    have hpl : pre.length ≤ 8 := by rw [List.length_append] at hl; omega
    have hm : pre.length * (n + 2 + 1) ≤ 8 * 403 := Nat.mul_le_mul hpl (by omega)
    refine up_of (p_plus z2 (sz_1.sub z1 (Nat.le_refl _)) (by omega) ?_)
    push_cast []
    refine ⟨cm_c (by omega) (by omega), ?_⟩
    refine ⟨_, digit_int (d := d) (by omega), by rw [dg_len]; simp, ?_⟩
    push_cast []
    refine hN _ _ ⟨rfl, pre ++ [d], some (.str (dg [d])), by simp, ?_⟩
    rw [idx_snoc]
    have e3 : missOn w S (pre ++ [d]) = missOn w S pre + (1 - shAt S (idx w pre) d) := by
      unfold missOn stF
      have : shF w S 0 (pre ++ [d]) = shF w S 0 pre ++ [shAt S (idx w pre) d] := by
        have key : ∀ (l : List Nat) (a : Nat), shF w S a (l ++ [d]) = shF w S a l ++ [shAt S (idxF w a l) d] := by
          intro l
          induction l with
          | nil => intro a; rfl
          | cons x l ih => intro a; show _ :: shF w S _ (l ++ [d]) = _; rw [ih]; rfl
        exact key pre 0
      rw [this, List.map_append]
      exact sumR_snoc
    rw [e3]
    rfl
  · rintro ds' M' ⟨rfl, pre, z, e, rfl⟩
    rw [List.append_nil] at e
    subst e
    refine ⟨trivial, ?_⟩
    push_cast []
    exact h
theorem p_has_only_s {l s : List Nat} (h : Q (.bl (decide (∀ d ∈ l, d ∈ s))) M) : f_has_only [.str (mkS l), .str (mkS s)] M Q X := by
  push_cast [f_has_only, b_has_only]
  rw [signs_mk]
  refine for_map (α := Nat) (fun r ds' M' => M' = M ∧ (∃ z, ds' = [some (.str (mkS l)), some (.str (mkS s)), z]) ∧ ((∀ d ∈ l, d ∈ s) ↔ ∀ d ∈ r, d ∈ s)) ?_ ?_ l _ _ ⟨rfl, ⟨none, rfl⟩, Iff.rfl⟩
  · rintro x r ds' M' N hN ⟨rfl, ⟨z, rfl⟩, hl⟩
    refine ⟨trivial, ?_⟩
    push_cast []
    refine ⟨x, rfl, ?_⟩
    push_cast [mkS_list]
    split
    · rename_i hx
      have : ¬ ∀ d ∈ l, d ∈ s := fun g => hx (hl.mp g x List.mem_cons_self)
      rw [decide_eq_false this] at h
      exact h
    · rename_i hx
      refine hN _ _ ⟨rfl, ⟨_, rfl⟩, hl.trans ?_⟩
      constructor
      · intro g d hd; exact g d (List.mem_cons_of_mem _ hd)
      · intro g d hd
        rcases List.mem_cons.mp hd with e | e
        · subst e; exact Classical.not_not.mp hx
        · exact g d e
  · rintro ds' M' ⟨rfl, ⟨z, rfl⟩, hl⟩
    refine ⟨trivial, ?_⟩
    push_cast []
    have : ∀ d ∈ l, d ∈ s := hl.mpr fun d hd => by cases hd
    rw [decide_eq_true this] at h
    exact h
/-- the codes of a row -/
def RowC (w r : Nat) (c : List Nat) : Prop := c.length = r ∧ ∀ x ∈ c, x ∈ (List.range w).map (· + 48)
instance {w r : Nat} {c : List Nat} : Decidable (RowC w r c) := by unfold RowC; infer_instance
theorem p_is_row {w r : Nat} {c : List Nat} (hw : W5 w) (hr : r ≤ mostR w) (hc : c.length ≤ 1000) (h : Q (.bl (decide (RowC w r c))) M) : f_is_row [.str (mkS c), .int r, .int w] M Q X := by
  push_cast [f_is_row, b_is_row]
  refine up_of (p_check_shape hw hr ?_)
  push_cast [mkS_len]
  rw [if_pos (by omega)]
  push_cast []
  by_cases e : c.length = r
  · have e' : ((c.length : Int) = r) := by omega
    push_cast [e', decide_true]
    refine up_of (p_letters hw ?_)
    push_cast []
    refine up_of (p_has_only_s ?_)
    have : (decide (RowC w r c)) = decide (∀ d ∈ c, d ∈ (List.range w).map (· + 48)) := decide_eq_decide.mpr ⟨fun h => h.2, fun h => ⟨e, h⟩⟩
    rw [this] at h
    exact h
  · have e' : ¬ ((c.length : Int) = r) := by omega
    rw [decide_eq_false e']
    push_cast []
    rw [decide_eq_false fun h => e h.1] at h
    exact h
theorem rowC_dg {w r : Nat} {t : List Nat} (ht : Dig w t) (hl : t.length = r) : RowC w r (t.map (· + 48)) :=
  ⟨by rw [List.length_map]; exact hl, fun x hx => by
    obtain ⟨d, hd, rfl⟩ := List.mem_map.mp hx
    exact List.mem_map.mpr ⟨d, List.mem_range.mpr (ht d hd), rfl⟩⟩
theorem isPlD {w r : Nat} {S : List (List Rat)} : ∃ fs, objView M (planD w r S) = some (Str.ofString "Plan", fs) := ⟨_, rfl⟩
theorem p_check_row {w r : Nat} {S : List (List Rat)} {c : List Nat} (hw : W5 w) (hr : r ≤ mostR w) (hc : RowC w r c) (hl : c.length ≤ 1000) (h : Q .non M) : f_check_row [planD w r S, .str (mkS c)] M Q X := by
  push_cast [f_check_row, b_check_row]
  refine ⟨isPlD, up_of (p_Plan_rounds ?_)⟩
  push_cast []
  refine ⟨isPlD, up_of (p_Plan_width ?_)⟩
  push_cast []
  refine up_of (p_is_row hw hr hl ?_)
  push_cast [decide_eq_true hc]
  exact h
theorem p_check_row_bad {w r : Nat} {S : List (List Rat)} {c : List Nat} (hw : W5 w) (hr : r ≤ mostR w) (hc : ¬ RowC w r c) (hl : c.length ≤ 1000) (h : X "BadRow" [("found", .str (mkS c))] M) : f_check_row [planD w r S, .str (mkS c)] M Q X := by
  push_cast [f_check_row, b_check_row]
  refine ⟨isPlD, up_of (p_Plan_rounds ?_)⟩
  push_cast []
  refine ⟨isPlD, up_of (p_Plan_width ?_)⟩
  push_cast []
  refine up_of (p_is_row hw hr hl ?_)
  push_cast [decide_eq_false hc, Nat.reduceLeDiff]
  exact h
theorem p_shares_on {n w r : Nat} {S : List (List Rat)} {t : List Nat} (hw : W5 w) (hr : r ≤ mostR w) (hS : Shs n w r S) (ht : Dig w t) (hl : t.length ≤ r) (h : Q (.lst (frs (shF w S 0 t))) M) : f_shares_on [planD w r S, .str (dg t)] M Q X := by
  have h8 := mostR_le (w := w)
  have h5 := hw.2
  push_cast [f_shares_on, b_shares_on]
  rw [signs_dg, enumD_map]
  refine lc_map_mem (α := Nat × Nat) (fun p => fr (shAt S (idx w (t.take p.2)) p.1)) trivial (t.zipIdx 0) [] (fun p N hp hN => ?_) (by rw [u_size, List.length_nil, List.length_zipIdx]; omega) ?_
  · obtain ⟨d, k⟩ := p
    obtain ⟨_, hk, e⟩ := List.mem_zipIdx hp
    have hk' : k < t.length := by omega
    have hd : d < w := by rw [e]; exact ht _ (List.getElem_mem _)
    have hb : t.take k ∈ begs w r := begs_mem.mpr ⟨by rw [List.length_take]; omega, ht.take⟩
    obtain ⟨s, hs1, hs2⟩ := sh_here hS hb hd
    have e2 : (frs s)[d]? = some (fr (shAt S (idx w (t.take k)) d)) := by unfold DL.frs; rw [List.getElem?_map, hs2]; rfl
    push_cast [dg_len]
    refine ⟨⟨_, rfl⟩, by omega, ?_⟩
    rw [dg_take]
    refine up_of (p_Plan_call hb hs1 ?_)
    have e0 : shD s = .tup (frs s) := rfl
    push_cast [e0]
    refine ⟨_, digit_int (d := d) (by omega), ?_⟩
    push_cast [atI_of e2]
    exact hN
  · push_cast []
    have := shF_enum (w := w) (S := S) t []
    simp only [List.nil_append, List.length_nil] at this
    have e : (t.zipIdx 0).map (fun p => fr (shAt S (idx w (t.take p.2)) p.1)) = frs (shF w S 0 t) := by
      show _ = frs (shF w S (idx w []) t)
      rw [← this]
      unfold DL.frs
      rw [List.map_map]; rfl
    rw [e]
    exact h
theorem p_miss_steps {n w r : Nat} {S : List (List Rat)} {t : List Nat} (hw : W5 w) (hr : r ≤ mostR w) (hS : Shs n w r S) (hn : 1 ≤ n) (hn2 : n ≤ 400) (ht : Dig w t) (hl : t.length = r) (h : Q (.lst (frs (stF w S 0 t))) M) : f_miss_steps [planD w r S, .str (dg t)] M Q X := by
  have h8 := mostR_le (w := w)
  push_cast [f_miss_steps, b_miss_steps]
  refine up_of (p_check_row hw hr (rowC_dg ht hl) (by rw [List.length_map]; omega) ?_)
  push_cast []
  refine up_of (p_shares_on hw hr hS ht (by omega) ?_)
  push_cast []
  have hz : ∀ q ∈ shF w S 0 t, Sz n q := by
    have key : ∀ (l : List Nat) (a : Nat), ∀ q ∈ shF w S a l, Sz n q := by
      intro l
      induction l with
      | nil => intro a q hq; cases hq
      | cons d l ih =>
        intro a q hq
        rcases List.mem_cons.mp hq with e | e
        · subst e; exact sh_sz hS hn
        · exact ih _ q e
    exact key t 0
  refine lc_map_mem (α := Rat) (fun q => fr (1 - q)) trivial (shF w S 0 t) [] (fun q N hq hN => ?_) (by rw [u_size, List.length_nil, shF_len]; omega) ?_
  · push_cast []
    refine up_of (p_sub_int (n := 1) (by decide) (by decide) (hz q hq) (by omega) ?_)
    exact hN
  · push_cast []
    unfold stF at h
    unfold DL.frs at h
    rw [List.map_map] at h
    exact h
end


end LK
set_option Elab.async false
set_option linter.all false
set_option maxRecDepth 100000
set_option maxHeartbeats 1000000
namespace LK
open PySem PySem.Spec PyProof.Rows L2 DL
local macro_rules | `(tactic| push_cast [$xs,*]) => `(tactic| repeat (first
  | with_reducible refine hold_i ?_
  | simp only [q_sp, q_st_c, q_st_n, q_st_0, q_seq, q_next, q_drop, q_ret, q_retN, q_ifS, q_break, q_cont, q_asg, q_par, q_name, q_gnil, q_gcons, q_gtup, q_for, q_var0, q_varS, q_c, q_nil, q_cons, q_tup, q_lst, q_newF, q_newT, q_op, q_test,
    q_and, q_or, q_not, q_andV, q_orV, q_notV, q_if, q_call, q_callK, q_cb, q_bm, q_bm0, q_frz, q_frzC, q_neg, q_sub, q_subC, q_lc, q_lc2, q_dc, q_yes, q_wipe0, q_wipeS, q_sl, q_noPart, q_part, q_cutS, q_cutT, q_cutL, q_cutC, q_rvC, q_rvL,
    q_lvC, q_lvL, q_clC, q_sqT, q_sqL, q_sqC, q_addI, q_addS, q_addT, q_addL, q_subI, q_mulI, q_divI, q_modI, q_powI, q_cmpI, q_eqI, q_neI, q_eqStr, q_isN, q_notN, q_ixT, q_ixL, q_ixC, q_ixS, q_at0, q_at1, q_at2, q_at3, q_at4, q_at5, q_at6, q_at7, q_at8, q_at9,
    q_len, q_lenT, q_lenL, q_lenC, q_lenS, q_sum, q_sumA, q_intI, q_intS, q_str, q_abs, q_max, q_min, q_list, q_tuple, q_isi, q_tyN, q_tyB, q_tyI, q_tyS, q_tyT, q_tyL, q_tyC, q_append, q_extend, q_rng1, q_sqi, u_isN, u_isB, u_isI, u_isS, u_isT, u_isL, u_isR, u_isD, u_isO, u_isC, q_frIx0, q_frIx1, q_frTup, q_frTy, q_frLen, q_raise0, q_raiseF, q_isi2, q_make, q_fld, q_setF, q_prop, q_meth, q_callO, q_inD, q_dget, q_inS, q_revS, q_revX, q_enumS, q_enum, q_zip, q_rev, q_rng2, q_rng3, q_insert, q_reverse, q_join, q_isTyS, q_isTyL, q_cntB, q_isTyC, q_isE, q_xf, q_ones, q_callE, q_ovO, q_ovC, q_dvD, q_keyS, q_keyI, q_den, kb_NoneType_bool, kb_NoneType_int, kb_NoneType_str, kb_NoneType_tuple, kb_NoneType_list, kb_NoneType_dict, kb_bool_bool, kb_bool_int, kb_bool_str, kb_bool_tuple, kb_bool_list, kb_bool_dict, kb_int_bool, kb_int_int, kb_int_str, kb_int_tuple, kb_int_list, kb_int_dict, kb_str_bool, kb_str_int, kb_str_str, kb_str_tuple, kb_str_list, kb_str_dict, kb_tuple_bool, kb_tuple_int, kb_tuple_str, kb_tuple_tuple, kb_tuple_list, kb_tuple_dict, kb_list_bool, kb_list_int, kb_list_str, kb_list_tuple, kb_list_list, kb_list_dict, kb_dict_bool, kb_dict_int, kb_dict_str, kb_dict_tuple, kb_dict_list, kb_dict_dict, u_cast, q_ixN0, q_ixN1, q_ixN2, q_ixN3, q_ixN4, mput_mput, Option.some.injEq, Dt.lst.injEq, Dt.cel.injEq, Prod.mk.injEq, lk_pl0, lk_pl1, lk_pl2, lk_pl3,  Dt.obj.injEq,  Dt.int.injEq, exists_eq_left', exists_eq_left, exists_and_left, u_mapC, u_mapE,  not_true_eq_false, not_false_eq_true, eq_self, u_size, Nat.reduceLeDiff, Nat.reduceLT, 
    u_set0, u_setS, u_lenC, u_lenN, List.append_nil, u_nilA, u_consA, u_mapS, u_mapN, u_bindS, u_bindN, mput_same,
    true_and, and_true, decide_eq_true_eq, Bool.not_eq_true', decide_eq_false_iff_not, u_notT, u_notF, if_true, if_false, ite_true, ite_false, Bool.false_eq_true, reduceCtorEq, reduceIte, Nat.reduceAdd, $xs,*]))
local macro_rules | `(tactic| push_cast only [$xs,*]) => `(tactic| (try with_reducible refine hold_i ?_); (simp only [q_sp, q_st_c, q_st_n, q_st_0, q_seq, q_next, q_drop, q_ret, q_retN, q_ifS, q_break, q_cont, q_asg, q_par, q_name, q_gnil, q_gcons, q_gtup, q_for, q_var0, q_varS, q_c, q_nil, q_cons, q_tup, q_lst, q_newF, q_newT, q_op, q_test,
    q_and, q_or, q_not, q_andV, q_orV, q_notV, q_if, q_call, q_callK, q_cb, q_bm, q_bm0, q_frz, q_frzC, q_neg, q_sub, q_subC, q_lc, q_lc2, q_dc, q_yes, q_wipe0, q_wipeS, q_sl, q_noPart, q_part, q_cutS, q_cutT, q_cutL, q_cutC, q_rvC, q_rvL,
    q_lvC, q_lvL, q_clC, q_sqT, q_sqL, q_sqC, q_addI, q_addS, q_addT, q_addL, q_subI, q_mulI, q_divI, q_modI, q_powI, q_cmpI, q_eqI, q_neI, q_eqStr, q_isN, q_notN, q_ixT, q_ixL, q_ixC, q_ixS, q_at0, q_at1, q_at2, q_at3, q_at4, q_at5, q_at6, q_at7, q_at8, q_at9,
    q_len, q_lenT, q_lenL, q_lenC, q_lenS, q_sum, q_sumA, q_intI, q_intS, q_str, q_abs, q_max, q_min, q_list, q_tuple, q_isi, q_tyN, q_tyB, q_tyI, q_tyS, q_tyT, q_tyL, q_tyC, q_append, q_extend, q_rng1, q_sqi, u_isN, u_isB, u_isI, u_isS, u_isT, u_isL, u_isR, u_isD, u_isO, u_isC, q_frIx0, q_frIx1, q_frTup, q_frTy, q_frLen, q_raise0, q_raiseF, q_isi2, q_make, q_fld, q_setF, q_prop, q_meth, q_callO, q_inD, q_dget, q_inS, q_revS, q_revX, q_enumS, q_enum, q_zip, q_rev, q_rng2, q_rng3, q_insert, q_reverse, q_join, q_isTyS, q_isTyL, q_cntB, q_isTyC, q_isE, q_xf, q_ones, q_callE, q_ovO, q_ovC, q_dvD, q_keyS, q_keyI, q_den, kb_NoneType_bool, kb_NoneType_int, kb_NoneType_str, kb_NoneType_tuple, kb_NoneType_list, kb_NoneType_dict, kb_bool_bool, kb_bool_int, kb_bool_str, kb_bool_tuple, kb_bool_list, kb_bool_dict, kb_int_bool, kb_int_int, kb_int_str, kb_int_tuple, kb_int_list, kb_int_dict, kb_str_bool, kb_str_int, kb_str_str, kb_str_tuple, kb_str_list, kb_str_dict, kb_tuple_bool, kb_tuple_int, kb_tuple_str, kb_tuple_tuple, kb_tuple_list, kb_tuple_dict, kb_list_bool, kb_list_int, kb_list_str, kb_list_tuple, kb_list_list, kb_list_dict, kb_dict_bool, kb_dict_int, kb_dict_str, kb_dict_tuple, kb_dict_list, kb_dict_dict, u_cast, q_ixN0, q_ixN1, q_ixN2, q_ixN3, q_ixN4, mput_mput, Option.some.injEq, Dt.lst.injEq, Dt.cel.injEq, Prod.mk.injEq, lk_pl0, lk_pl1, lk_pl2, lk_pl3,  Dt.obj.injEq,  Dt.int.injEq, exists_eq_left', exists_eq_left, exists_and_left, u_mapC, u_mapE,  not_true_eq_false, not_false_eq_true, eq_self, u_size, Nat.reduceLeDiff, Nat.reduceLT, 
    u_set0, u_setS, u_lenC, u_lenN, List.append_nil, u_nilA, u_consA, u_mapS, u_mapN, u_bindS, u_bindN, mput_same,
    true_and, and_true, decide_eq_true_eq, Bool.not_eq_true', decide_eq_false_iff_not, u_notT, u_notF, if_true, if_false, ite_true, ite_false, Bool.false_eq_true, reduceCtorEq, reduceIte, Nat.reduceAdd, $xs,*]))
section
variable {M : Mm} {Q : DQ} {X : DX}
/-! check_lengths -/
theorem sum_seq {x : Dt} {ks : List Nat} (hx : SeqOf M x (lenD' ks)) (h : Q (.int (ks.sum : Nat)) M) : dSumA [x] M Q := by
  rw [q_sumA]
  have : seqD M x = some (lenD' ks) := by
    rcases hx with rfl | rfl | ⟨p, rfl, hp⟩
    · rfl
    · rfl
    · exact rvC hp
  rw [this, u_bindS, intsD_len]
  show Q (.int (List.sum _)) M
  rw [sum_cast]
  exact h
theorem cl_loop {x nn : Dt} {ks : List Nat} {st : Mm → Prop} {n : DSt → Mm → Prop} {r : DQ} {b c : DSt → Mm → Prop} (hst : st M) (hk : ∀ k ∈ ks, k ≤ 8) (hn : ∀ z, n [some x, some nn, z] M) :
    dForL (dName 2) (dDrop (dCall f_check_count [] X (dCons (dVar 2) (dCons (dC (.int 0)) (dCons (dC (.int 8)) dNil))))) ⟨n, r, b, c⟩ st (lenD' ks) [some x, some nn, none] M := by
  refine for_map (α := Nat) (fun rest ds' M' => M' = M ∧ (∀ k ∈ rest, k ≤ 8) ∧ ∃ z, ds' = [some x, some nn, z]) ?_ ?_ ks _ _ ⟨rfl, hk, none, rfl⟩
  · rintro k rest ds' M' N hN ⟨rfl, hk, z, rfl⟩
    refine ⟨hst, ?_⟩
    have := hk k List.mem_cons_self
    push_cast []
    refine up_of (p_check_count (by omega) (by omega) ?_)
    exact hN _ _ ⟨rfl, fun k hk' => hk k (List.mem_cons_of_mem _ hk'), _, rfl⟩
  · rintro ds' M' ⟨rfl, hk, z, rfl⟩
    exact ⟨hst, hn z⟩
theorem cl_bad {x nn bad : Dt} {ks : List Nat} {rest : List Dt} {st : Mm → Prop} {n : DSt → Mm → Prop} {r : DQ} {b c : DSt → Mm → Prop} (hst : st M) (hk : ∀ k ∈ ks, k ≤ 8) (hb : BadC 0 8 bad) (h : X "BadCount" [("high", .int 8), ("low", .int 0), ("found", bad)] M) :
    dForL (dName 2) (dDrop (dCall f_check_count [] X (dCons (dVar 2) (dCons (dC (.int 0)) (dCons (dC (.int 8)) dNil))))) ⟨n, r, b, c⟩ st (lenD' ks ++ bad :: rest) [some x, some nn, none] M := by
  refine for_of (fun items ds' M' => M' = M ∧ (∃ ks' : List Nat, items = lenD' ks' ++ bad :: rest ∧ ∀ k ∈ ks', k ≤ 8) ∧ ∃ z, ds' = [some x, some nn, z]) ?_ ?_ _ _ _ ⟨rfl, ⟨ks, rfl, hk⟩, none, rfl⟩
  · rintro y r ds' M' N hN ⟨rfl, ⟨ks', e, hk'⟩, z, rfl⟩
    refine ⟨hst, ?_⟩
    cases ks' with
    | nil =>
      have e : y :: r = bad :: rest := e
      injection e with e1 e2
      subst e1 e2
      push_cast []
      exact up_of (p_check_count_bad hb h)
    | cons k ks' =>
      have e : y :: r = .int (k : Int) :: (lenD' ks' ++ bad :: rest) := e
      injection e with e1 e2
      subst e1 e2
      have := hk' k List.mem_cons_self
      push_cast []
      refine up_of (p_check_count (by omega) (by omega) ?_)
      exact hN _ _ ⟨rfl, ⟨ks', rfl, fun k hk => hk' k (List.mem_cons_of_mem _ hk)⟩, _, rfl⟩
  · rintro ds' M' ⟨rfl, ⟨ks', e, hk'⟩, z, rfl⟩
    cases ks' <;> cases e
theorem p_check_lengths {x : Dt} {ks : List Nat} {n : Nat} (hx : SeqOf M x (lenD' ks)) (hL : Lens n ks) (h : Q .non M) : f_check_lengths [x, .int n] M Q X := by
  have hs : ∀ Q' : DQ, Q' (.int n) M → dSumA [x] M Q' := fun Q' h => sum_seq hx (by rw [hL.sum]; exact h)
  have fin : ∀ z, hold (dIfS (dTest (dOp dNeR (dCB dSumA (dCons (dVar 0) dNil)) (dVar 1))) (dRaise0 "Mismatch" X) dNext) { nx := fun _ M1 => Q .non M1, rt := Q } [some x, some (.int n), z] M := fun z => by
    push_cast only [-q_sumA]
    refine hs _ ?_
    push_cast []
    exact h
  rcases hx with rfl | rfl | ⟨p, rfl, hp⟩
  · push_cast [f_check_lengths, b_check_lengths]
    exact cl_loop (by trivial) hL.le fin
  · push_cast [f_check_lengths, b_check_lengths]
    exact cl_loop (by trivial) hL.le fin
  · push_cast [f_check_lengths, b_check_lengths, hp]
    exact cl_loop (by rw [hp]) hL.le fin
theorem p_check_lengths_mm {x : Dt} {ks : List Nat} {n : Nat} (hx : SeqOf M x (lenD' ks)) (hk : ∀ k ∈ ks, k ≤ 8) (hsn : ks.sum ≠ n) (h : X "Mismatch" [] M) : f_check_lengths [x, .int n] M Q X := by
  have hs : ∀ Q' : DQ, Q' (.int (ks.sum : Nat)) M → dSumA [x] M Q' := fun Q' h => sum_seq hx h
  have fin : ∀ z, hold (dIfS (dTest (dOp dNeR (dCB dSumA (dCons (dVar 0) dNil)) (dVar 1))) (dRaise0 "Mismatch" X) dNext) { nx := fun _ M1 => Q .non M1, rt := Q } [some x, some (.int n), z] M := fun z => by
    push_cast only [-q_sumA]
    refine hs _ ?_
    push_cast []
    rw [if_pos (by omega)]
    exact h
  rcases hx with rfl | rfl | ⟨p, rfl, hp⟩
  · push_cast [f_check_lengths, b_check_lengths]
    exact cl_loop (by trivial) hk fin
  · push_cast [f_check_lengths, b_check_lengths]
    exact cl_loop (by trivial) hk fin
  · push_cast [f_check_lengths, b_check_lengths, hp]
    exact cl_loop (by rw [hp]) hk fin
theorem p_check_lengths_bc {x bad n : Dt} {ks : List Nat} {rest : List Dt} (hx : SeqOf M x (lenD' ks ++ bad :: rest)) (hk : ∀ k ∈ ks, k ≤ 8) (hb : BadC 0 8 bad) (h : X "BadCount" [("high", .int 8), ("low", .int 0), ("found", bad)] M) : f_check_lengths [x, n] M Q X := by
  rcases hx with rfl | rfl | ⟨p, rfl, hp⟩
  · push_cast [f_check_lengths, b_check_lengths]
    exact cl_bad (by trivial) hk hb h
  · push_cast [f_check_lengths, b_check_lengths]
    exact cl_bad (by trivial) hk hb h
  · push_cast [f_check_lengths, b_check_lengths, hp]
    exact cl_bad (by rw [hp]) hk hb h
end


end LK
set_option Elab.async false
set_option linter.all false
set_option maxRecDepth 100000
set_option maxHeartbeats 1000000
namespace LK
open PySem PySem.Spec PyProof.Rows L2 DL
local macro_rules | `(tactic| push_cast [$xs,*]) => `(tactic| repeat (first
  | with_reducible refine hold_i ?_
  | simp only [q_sp, q_st_c, q_st_n, q_st_0, q_seq, q_next, q_drop, q_ret, q_retN, q_ifS, q_break, q_cont, q_asg, q_par, q_name, q_gnil, q_gcons, q_gtup, q_for, q_var0, q_varS, q_c, q_nil, q_cons, q_tup, q_lst, q_newF, q_newT, q_op, q_test,
    q_and, q_or, q_not, q_andV, q_orV, q_notV, q_if, q_call, q_callK, q_cb, q_bm, q_bm0, q_frz, q_frzC, q_neg, q_sub, q_subC, q_lc, q_lc2, q_dc, q_yes, q_wipe0, q_wipeS, q_sl, q_noPart, q_part, q_cutS, q_cutT, q_cutL, q_cutC, q_rvC, q_rvL,
    q_lvC, q_lvL, q_clC, q_sqT, q_sqL, q_sqC, q_addI, q_addS, q_addT, q_addL, q_subI, q_mulI, q_divI, q_modI, q_powI, q_cmpI, q_eqI, q_neI, q_eqStr, q_isN, q_notN, q_ixT, q_ixL, q_ixC, q_ixS, q_at0, q_at1, q_at2, q_at3, q_at4, q_at5, q_at6, q_at7, q_at8, q_at9,
    q_len, q_lenT, q_lenL, q_lenC, q_lenS, q_sum, q_sumA, q_intI, q_intS, q_str, q_abs, q_max, q_min, q_list, q_tuple, q_isi, q_tyN, q_tyB, q_tyI, q_tyS, q_tyT, q_tyL, q_tyC, q_append, q_extend, q_rng1, q_sqi, u_isN, u_isB, u_isI, u_isS, u_isT, u_isL, u_isR, u_isD, u_isO, u_isC, q_frIx0, q_frIx1, q_frTup, q_frTy, q_frLen, q_raise0, q_raiseF, q_isi2, q_make, q_fld, q_setF, q_prop, q_meth, q_callO, q_inD, q_dget, q_inS, q_revS, q_revX, q_enumS, q_enum, q_zip, q_rev, q_rng2, q_rng3, q_insert, q_reverse, q_join, q_isTyS, q_isTyL, q_cntB, q_isTyC, q_isE, q_xf, q_ones, q_callE, q_ovO, q_ovC, q_dvD, q_keyS, q_keyI, q_den, kb_NoneType_bool, kb_NoneType_int, kb_NoneType_str, kb_NoneType_tuple, kb_NoneType_list, kb_NoneType_dict, kb_bool_bool, kb_bool_int, kb_bool_str, kb_bool_tuple, kb_bool_list, kb_bool_dict, kb_int_bool, kb_int_int, kb_int_str, kb_int_tuple, kb_int_list, kb_int_dict, kb_str_bool, kb_str_int, kb_str_str, kb_str_tuple, kb_str_list, kb_str_dict, kb_tuple_bool, kb_tuple_int, kb_tuple_str, kb_tuple_tuple, kb_tuple_list, kb_tuple_dict, kb_list_bool, kb_list_int, kb_list_str, kb_list_tuple, kb_list_list, kb_list_dict, kb_dict_bool, kb_dict_int, kb_dict_str, kb_dict_tuple, kb_dict_list, kb_dict_dict, u_cast, q_ixN0, q_ixN1, q_ixN2, q_ixN3, q_ixN4, mput_mput, Option.some.injEq, Dt.lst.injEq, Dt.cel.injEq, Prod.mk.injEq, lk_pl0, lk_pl1, lk_pl2, lk_pl3,  Dt.obj.injEq,  Dt.int.injEq, exists_eq_left', exists_eq_left, exists_and_left, u_mapC, u_mapE,  not_true_eq_false, not_false_eq_true, eq_self, u_size, Nat.reduceLeDiff, Nat.reduceLT, 
    u_set0, u_setS, u_lenC, u_lenN, List.append_nil, u_nilA, u_consA, u_mapS, u_mapN, u_bindS, u_bindN, mput_same,
    true_and, and_true, decide_eq_true_eq, Bool.not_eq_true', decide_eq_false_iff_not, u_notT, u_notF, if_true, if_false, ite_true, ite_false, Bool.false_eq_true, reduceCtorEq, reduceIte, Nat.reduceAdd, $xs,*]))
local macro_rules | `(tactic| push_cast only [$xs,*]) => `(tactic| (try with_reducible refine hold_i ?_); (simp only [q_sp, q_st_c, q_st_n, q_st_0, q_seq, q_next, q_drop, q_ret, q_retN, q_ifS, q_break, q_cont, q_asg, q_par, q_name, q_gnil, q_gcons, q_gtup, q_for, q_var0, q_varS, q_c, q_nil, q_cons, q_tup, q_lst, q_newF, q_newT, q_op, q_test,
    q_and, q_or, q_not, q_andV, q_orV, q_notV, q_if, q_call, q_callK, q_cb, q_bm, q_bm0, q_frz, q_frzC, q_neg, q_sub, q_subC, q_lc, q_lc2, q_dc, q_yes, q_wipe0, q_wipeS, q_sl, q_noPart, q_part, q_cutS, q_cutT, q_cutL, q_cutC, q_rvC, q_rvL,
    q_lvC, q_lvL, q_clC, q_sqT, q_sqL, q_sqC, q_addI, q_addS, q_addT, q_addL, q_subI, q_mulI, q_divI, q_modI, q_powI, q_cmpI, q_eqI, q_neI, q_eqStr, q_isN, q_notN, q_ixT, q_ixL, q_ixC, q_ixS, q_at0, q_at1, q_at2, q_at3, q_at4, q_at5, q_at6, q_at7, q_at8, q_at9,
    q_len, q_lenT, q_lenL, q_lenC, q_lenS, q_sum, q_sumA, q_intI, q_intS, q_str, q_abs, q_max, q_min, q_list, q_tuple, q_isi, q_tyN, q_tyB, q_tyI, q_tyS, q_tyT, q_tyL, q_tyC, q_append, q_extend, q_rng1, q_sqi, u_isN, u_isB, u_isI, u_isS, u_isT, u_isL, u_isR, u_isD, u_isO, u_isC, q_frIx0, q_frIx1, q_frTup, q_frTy, q_frLen, q_raise0, q_raiseF, q_isi2, q_make, q_fld, q_setF, q_prop, q_meth, q_callO, q_inD, q_dget, q_inS, q_revS, q_revX, q_enumS, q_enum, q_zip, q_rev, q_rng2, q_rng3, q_insert, q_reverse, q_join, q_isTyS, q_isTyL, q_cntB, q_isTyC, q_isE, q_xf, q_ones, q_callE, q_ovO, q_ovC, q_dvD, q_keyS, q_keyI, q_den, kb_NoneType_bool, kb_NoneType_int, kb_NoneType_str, kb_NoneType_tuple, kb_NoneType_list, kb_NoneType_dict, kb_bool_bool, kb_bool_int, kb_bool_str, kb_bool_tuple, kb_bool_list, kb_bool_dict, kb_int_bool, kb_int_int, kb_int_str, kb_int_tuple, kb_int_list, kb_int_dict, kb_str_bool, kb_str_int, kb_str_str, kb_str_tuple, kb_str_list, kb_str_dict, kb_tuple_bool, kb_tuple_int, kb_tuple_str, kb_tuple_tuple, kb_tuple_list, kb_tuple_dict, kb_list_bool, kb_list_int, kb_list_str, kb_list_tuple, kb_list_list, kb_list_dict, kb_dict_bool, kb_dict_int, kb_dict_str, kb_dict_tuple, kb_dict_list, kb_dict_dict, u_cast, q_ixN0, q_ixN1, q_ixN2, q_ixN3, q_ixN4, mput_mput, Option.some.injEq, Dt.lst.injEq, Dt.cel.injEq, Prod.mk.injEq, lk_pl0, lk_pl1, lk_pl2, lk_pl3,  Dt.obj.injEq,  Dt.int.injEq, exists_eq_left', exists_eq_left, exists_and_left, u_mapC, u_mapE,  not_true_eq_false, not_false_eq_true, eq_self, u_size, Nat.reduceLeDiff, Nat.reduceLT, 
    u_set0, u_setS, u_lenC, u_lenN, List.append_nil, u_nilA, u_consA, u_mapS, u_mapN, u_bindS, u_bindN, mput_same,
    true_and, and_true, decide_eq_true_eq, Bool.not_eq_true', decide_eq_false_iff_not, u_notT, u_notF, if_true, if_false, ite_true, ite_false, Bool.false_eq_true, reduceCtorEq, reduceIte, Nat.reduceAdd, $xs,*]))
theorem le_sum_mem {k : Nat} : ∀ {ks : List Nat}, k ∈ ks → k ≤ ks.sum
  | x :: r, h => by
    rw [List.sum_cons]
    rcases List.mem_cons.mp h with e | e
    · omega
    · have := le_sum_mem e; omega
section
variable {M : Mm} {Q : DQ} {X : DX}
theorem seq_mono {M M' : Mm} {x : Dt} {xs : List Dt} (hx : SeqOf M x xs) (h : ∀ p d, M p = some d → M' p = some d) : SeqOf M' x xs := by
  rcases hx with h1 | h1 | ⟨p, h1, h2⟩
  · exact .inl h1
  · exact .inr (.inl h1)
  · exact .inr (.inr ⟨p, h1, h _ _ h2⟩)
/-- the loop of cut_row -/
theorem cut_loop {x : Dt} {c ks : List Nat} {p : Addr} {st : Mm → Prop} {n : DSt → Mm → Prop} {r : DQ} {b c' : DSt → Mm → Prop} (hst : ∀ M', (∀ b, b ≠ p → M' b = M b) → st M') (hp : M p = none) (hs : ks.sum = c.length) (hl : c.length ≤ 1000) (hl2 : ks.length ≤ 1000)
    (hn : ∀ M' v z, (∀ b, b ≠ p → M' b = M b) → M' p = some (.lst ((partsAt (fun s k => (c.drop s).take k) 0 ks).map fun l => .str (mkS l))) → n [some (.str (mkS c)), some x, some (.cel p), v, z] M') :
    dForL (dName 4) (dSeq (dDrop (dBM "list" dAppend (dVar 2) (dCons (dSl false (dVar 0) (dPart (dVar 3)) (dPart (dOp (dAddR false) (dVar 3) (dVar 4)))) dNil)))
    (dAsg (dOp (dAddR false) (dVar 3) (dVar 4)) (dName 3))) ⟨n, r, b, c'⟩ st (lenD' ks) [some (.str (mkS c)), some x, some (.cel p), some (.int 0), none] (mput M p (.lst [])) := by
  refine for_map (α := Nat) (fun rest ds' M' => (∀ b, b ≠ p → M' b = M b) ∧ ∃ (pre : List Nat) (z : Option Dt), ks = pre ++ rest ∧ M' p = some (.lst ((partsAt (fun s k => (c.drop s).take k) 0 pre).map fun l => .str (mkS l))) ∧ ds' = [some (.str (mkS c)), some x, some (.cel p), some (.int (pre.sum : Nat)), z]) ?_ ?_ ks _ _ ⟨fun b hb => mput_ne hb, [], none, rfl, mput_same, rfl⟩
  · rintro k rest ds' M' N hN ⟨hfr, pre, z, e, hMp, rfl⟩
    refine ⟨hst _ hfr, ?_⟩
    have hsum : pre.sum + k + rest.sum = c.length := by rw [← hs, e, List.sum_append, List.sum_cons]; omega
    have hplen : pre.length ≤ 1000 := by rw [e, List.length_append] at hl2; omega
    push_cast [hMp]
    refine ⟨⟨_, rfl⟩, ?_⟩
    rw [← Int.natCast_add, cut_from_to (by omega), mkS_len]
    refine ⟨by omega, ?_⟩
    rw [List.length_map, partsAt_len]
    refine ⟨by omega, ?_⟩
    push_cast []
    refine hN _ _ ⟨fun b hb => (mput_ne hb).trans (hfr b hb), pre ++ [k], some (.int k), by simp [e], ?_, ?_⟩
    · rw [mput_same, partsAt_snoc, List.map_append, Nat.zero_add, Nat.add_sub_cancel_left]; rfl
    · rw [List.sum_append]; simp
  · rintro ds' M' ⟨hfr, pre, z, e, hMp, rfl⟩
    rw [List.append_nil] at e
    subst e
    exact ⟨hst _ hfr, hn M' _ _ hfr hMp⟩
end


end LK
set_option Elab.async false
set_option linter.all false
set_option maxRecDepth 100000
set_option maxHeartbeats 1000000
namespace LK
open PySem PySem.Spec PyProof.Rows L2 DL
local macro_rules | `(tactic| push_cast [$xs,*]) => `(tactic| repeat (first
  | with_reducible refine hold_i ?_
  | simp only [q_sp, q_st_c, q_st_n, q_st_0, q_seq, q_next, q_drop, q_ret, q_retN, q_ifS, q_break, q_cont, q_asg, q_par, q_name, q_gnil, q_gcons, q_gtup, q_for, q_var0, q_varS, q_c, q_nil, q_cons, q_tup, q_lst, q_newF, q_newT, q_op, q_test,
    q_and, q_or, q_not, q_andV, q_orV, q_notV, q_if, q_call, q_callK, q_cb, q_bm, q_bm0, q_frz, q_frzC, q_neg, q_sub, q_subC, q_lc, q_lc2, q_dc, q_yes, q_wipe0, q_wipeS, q_sl, q_noPart, q_part, q_cutS, q_cutT, q_cutL, q_cutC, q_rvC, q_rvL,
    q_lvC, q_lvL, q_clC, q_sqT, q_sqL, q_sqC, q_addI, q_addS, q_addT, q_addL, q_subI, q_mulI, q_divI, q_modI, q_powI, q_cmpI, q_eqI, q_neI, q_eqStr, q_isN, q_notN, q_ixT, q_ixL, q_ixC, q_ixS, q_at0, q_at1, q_at2, q_at3, q_at4, q_at5, q_at6, q_at7, q_at8, q_at9,
    q_len, q_lenT, q_lenL, q_lenC, q_lenS, q_sum, q_sumA, q_intI, q_intS, q_str, q_abs, q_max, q_min, q_list, q_tuple, q_isi, q_tyN, q_tyB, q_tyI, q_tyS, q_tyT, q_tyL, q_tyC, q_append, q_extend, q_rng1, q_sqi, u_isN, u_isB, u_isI, u_isS, u_isT, u_isL, u_isR, u_isD, u_isO, u_isC, q_frIx0, q_frIx1, q_frTup, q_frTy, q_frLen, q_raise0, q_raiseF, q_isi2, q_make, q_fld, q_setF, q_prop, q_meth, q_callO, q_inD, q_dget, q_inS, q_revS, q_revX, q_enumS, q_enum, q_zip, q_rev, q_rng2, q_rng3, q_insert, q_reverse, q_join, q_isTyS, q_isTyL, q_cntB, q_isTyC, q_isE, q_xf, q_ones, q_callE, q_ovO, q_ovC, q_dvD, q_keyS, q_keyI, q_den, kb_NoneType_bool, kb_NoneType_int, kb_NoneType_str, kb_NoneType_tuple, kb_NoneType_list, kb_NoneType_dict, kb_bool_bool, kb_bool_int, kb_bool_str, kb_bool_tuple, kb_bool_list, kb_bool_dict, kb_int_bool, kb_int_int, kb_int_str, kb_int_tuple, kb_int_list, kb_int_dict, kb_str_bool, kb_str_int, kb_str_str, kb_str_tuple, kb_str_list, kb_str_dict, kb_tuple_bool, kb_tuple_int, kb_tuple_str, kb_tuple_tuple, kb_tuple_list, kb_tuple_dict, kb_list_bool, kb_list_int, kb_list_str, kb_list_tuple, kb_list_list, kb_list_dict, kb_dict_bool, kb_dict_int, kb_dict_str, kb_dict_tuple, kb_dict_list, kb_dict_dict, u_cast, q_ixN0, q_ixN1, q_ixN2, q_ixN3, q_ixN4, mput_mput, Option.some.injEq, Dt.lst.injEq, Dt.cel.injEq, Prod.mk.injEq, lk_pl0, lk_pl1, lk_pl2, lk_pl3,  Dt.obj.injEq,  Dt.int.injEq, exists_eq_left', exists_eq_left, exists_and_left, u_mapC, u_mapE,  not_true_eq_false, not_false_eq_true, eq_self, u_size, Nat.reduceLeDiff, Nat.reduceLT, 
    u_set0, u_setS, u_lenC, u_lenN, List.append_nil, u_nilA, u_consA, u_mapS, u_mapN, u_bindS, u_bindN, mput_same,
    true_and, and_true, decide_eq_true_eq, Bool.not_eq_true', decide_eq_false_iff_not, u_notT, u_notF, if_true, if_false, ite_true, ite_false, Bool.false_eq_true, reduceCtorEq, reduceIte, Nat.reduceAdd, $xs,*]))
local macro_rules | `(tactic| push_cast only [$xs,*]) => `(tactic| (try with_reducible refine hold_i ?_); (simp only [q_sp, q_st_c, q_st_n, q_st_0, q_seq, q_next, q_drop, q_ret, q_retN, q_ifS, q_break, q_cont, q_asg, q_par, q_name, q_gnil, q_gcons, q_gtup, q_for, q_var0, q_varS, q_c, q_nil, q_cons, q_tup, q_lst, q_newF, q_newT, q_op, q_test,
    q_and, q_or, q_not, q_andV, q_orV, q_notV, q_if, q_call, q_callK, q_cb, q_bm, q_bm0, q_frz, q_frzC, q_neg, q_sub, q_subC, q_lc, q_lc2, q_dc, q_yes, q_wipe0, q_wipeS, q_sl, q_noPart, q_part, q_cutS, q_cutT, q_cutL, q_cutC, q_rvC, q_rvL,
    q_lvC, q_lvL, q_clC, q_sqT, q_sqL, q_sqC, q_addI, q_addS, q_addT, q_addL, q_subI, q_mulI, q_divI, q_modI, q_powI, q_cmpI, q_eqI, q_neI, q_eqStr, q_isN, q_notN, q_ixT, q_ixL, q_ixC, q_ixS, q_at0, q_at1, q_at2, q_at3, q_at4, q_at5, q_at6, q_at7, q_at8, q_at9,
    q_len, q_lenT, q_lenL, q_lenC, q_lenS, q_sum, q_sumA, q_intI, q_intS, q_str, q_abs, q_max, q_min, q_list, q_tuple, q_isi, q_tyN, q_tyB, q_tyI, q_tyS, q_tyT, q_tyL, q_tyC, q_append, q_extend, q_rng1, q_sqi, u_isN, u_isB, u_isI, u_isS, u_isT, u_isL, u_isR, u_isD, u_isO, u_isC, q_frIx0, q_frIx1, q_frTup, q_frTy, q_frLen, q_raise0, q_raiseF, q_isi2, q_make, q_fld, q_setF, q_prop, q_meth, q_callO, q_inD, q_dget, q_inS, q_revS, q_revX, q_enumS, q_enum, q_zip, q_rev, q_rng2, q_rng3, q_insert, q_reverse, q_join, q_isTyS, q_isTyL, q_cntB, q_isTyC, q_isE, q_xf, q_ones, q_callE, q_ovO, q_ovC, q_dvD, q_keyS, q_keyI, q_den, kb_NoneType_bool, kb_NoneType_int, kb_NoneType_str, kb_NoneType_tuple, kb_NoneType_list, kb_NoneType_dict, kb_bool_bool, kb_bool_int, kb_bool_str, kb_bool_tuple, kb_bool_list, kb_bool_dict, kb_int_bool, kb_int_int, kb_int_str, kb_int_tuple, kb_int_list, kb_int_dict, kb_str_bool, kb_str_int, kb_str_str, kb_str_tuple, kb_str_list, kb_str_dict, kb_tuple_bool, kb_tuple_int, kb_tuple_str, kb_tuple_tuple, kb_tuple_list, kb_tuple_dict, kb_list_bool, kb_list_int, kb_list_str, kb_list_tuple, kb_list_list, kb_list_dict, kb_dict_bool, kb_dict_int, kb_dict_str, kb_dict_tuple, kb_dict_list, kb_dict_dict, u_cast, q_ixN0, q_ixN1, q_ixN2, q_ixN3, q_ixN4, mput_mput, Option.some.injEq, Dt.lst.injEq, Dt.cel.injEq, Prod.mk.injEq, lk_pl0, lk_pl1, lk_pl2, lk_pl3,  Dt.obj.injEq,  Dt.int.injEq, exists_eq_left', exists_eq_left, exists_and_left, u_mapC, u_mapE,  not_true_eq_false, not_false_eq_true, eq_self, u_size, Nat.reduceLeDiff, Nat.reduceLT, 
    u_set0, u_setS, u_lenC, u_lenN, List.append_nil, u_nilA, u_consA, u_mapS, u_mapN, u_bindS, u_bindN, mput_same,
    true_and, and_true, decide_eq_true_eq, Bool.not_eq_true', decide_eq_false_iff_not, u_notT, u_notF, if_true, if_false, ite_true, ite_false, Bool.false_eq_true, reduceCtorEq, reduceIte, Nat.reduceAdd, $xs,*]))
section
variable {M : Mm} {Q : DQ} {X : DX}
/-- the misses of the stretches -/
def strM (w : Nat) (S : List (List Rat)) (t ks : List Nat) : List Rat := partsAt (fun s k => sumR (((stF w S 0 t).drop s).take k)) 0 ks
theorem p_total_lst {n : Nat} {qs : List Rat} (hq : ∀ q ∈ qs, Sz n q) (hl : (qs.length + 1) * (n + 1) ≤ 3000) (h : Q (fr (sumR qs)) M) : f_total [.lst (frs qs)] M Q X := by
  have e01 : (Dt.tup [.int 0, .int 1]) = fr 0 := rfl
  push_cast [f_total, b_total, e01]
  refine for_map (α := Rat) (fun r ds' M' => M' = M ∧ (∀ q ∈ r, Sz n q) ∧ ∃ (m : Nat) (a : Rat) (z : Option Dt), Sz m a ∧ m + r.length * (n + 1) ≤ 3000 ∧ r.foldl (· + ·) a = sumR qs ∧ ds' = [some (.lst (frs qs)), some (fr a), z]) ?_ ?_ qs _ _ ⟨rfl, hq, 1, 0, none, sz_0, by rw [Nat.succ_mul] at hl; omega, rfl, rfl⟩
  · rintro q r ds' M' N hN ⟨rfl, hr, m, a, z, ha, hm, hs, rfl⟩
    refine ⟨trivial, ?_⟩
    rw [List.length_cons, Nat.succ_mul] at hm
    have sq := hr q List.mem_cons_self
    push_cast []
    refine up_of (p_fraction sq (by omega) ?_)
    push_cast []
    refine up_of (p_sum_of_two ha sq (by omega) ?_)
    push_cast []
    exact hN _ _ ⟨rfl, fun x hx => hr x (List.mem_cons_of_mem _ hx), m + n + 1, a + q, _, ha.add sq (Nat.le_refl _), by omega, hs, rfl⟩
  · rintro ds' M' ⟨rfl, hr, m, a, z, ha, hm, hs, rfl⟩
    refine ⟨trivial, ?_⟩
    push_cast []
    have hs : a = sumR qs := hs
    rw [hs]
    exact h
theorem strM_loop {n w r : Nat} {S : List (List Rat)} {x row : Dt} {t ks : List Nat} {p : Addr} {st : Mm → Prop} {nn : DSt → Mm → Prop} {rr : DQ} {b c' : DSt → Mm → Prop} (hS : Shs n w r S) (hn : 1 ≤ n) (hn2 : n ≤ 100) (hst : ∀ M', (∀ b, b ≠ p → M' b = M b) → st M') (hp : M p = none) (hs : ks.sum = t.length) (hl : t.length ≤ 8) (hl2 : ks.length ≤ 1000)
    (hnx : ∀ M' v z, (∀ b, b ≠ p → M' b = M b) → M' p = some (.lst (frs (strM w S t ks))) → nn [some (planD w r S), some row, some x, some (.lst (frs (stF w S 0 t))), some (.cel p), v, z] M') :
    dForL (dName 6) (dSeq (dDrop (dBM "list" dAppend (dVar 4) (dCons (dCall f_total [] X (dCons (dSl false (dVar 3) (dPart (dVar 5)) (dPart (dOp (dAddR false) (dVar 5) (dVar 6)))) dNil)) dNil)))
    (dAsg (dOp (dAddR false) (dVar 5) (dVar 6)) (dName 5))) ⟨nn, rr, b, c'⟩ st (lenD' ks) [some (planD w r S), some row, some x, some (.lst (frs (stF w S 0 t))), some (.cel p), some (.int 0), none] (mput M p (.lst [])) := by
  refine for_map (α := Nat) (fun rest ds' M' => (∀ b, b ≠ p → M' b = M b) ∧ ∃ (pre : List Nat) (z : Option Dt), ks = pre ++ rest ∧ M' p = some (.lst (frs (strM w S t pre))) ∧ ds' = [some (planD w r S), some row, some x, some (.lst (frs (stF w S 0 t))), some (.cel p), some (.int (pre.sum : Nat)), z]) ?_ ?_ ks _ _ ⟨fun b hb => mput_ne hb, [], none, rfl, mput_same, rfl⟩
  · rintro k rest ds' M' N hN ⟨hfr, pre, z, e, hMp, rfl⟩
    refine ⟨hst _ hfr, ?_⟩
    have hsum : pre.sum + k + rest.sum = t.length := by rw [← hs, e, List.sum_append, List.sum_cons]; omega
    have hplen : pre.length ≤ 1000 := by rw [e, List.length_append] at hl2; omega
    have efl : (frs (stF w S 0 t)).length = t.length := by unfold DL.frs; rw [List.length_map, stF_len]
    push_cast [hMp]
    refine ⟨⟨_, rfl⟩, ?_⟩
    rw [← Int.natCast_add, cutD_ft (by omega), Nat.add_sub_cancel_left]
    have ec : ((frs (stF w S 0 t)).drop pre.sum).take k = frs (((stF w S 0 t).drop pre.sum).take k) := by unfold DL.frs; rw [List.map_take, List.map_drop]
    rw [ec]
    have hz : ∀ q ∈ ((stF w S 0 t).drop pre.sum).take k, Sz (n + 2) q := fun q hq => st_sz hS hn t 0 q (List.mem_of_mem_drop (List.mem_of_mem_take hq))
    refine up_of (p_total_lst hz ?_ ?_)
    · have h1 : (((stF w S 0 t).drop pre.sum).take k).length ≤ 8 := by rw [List.length_take, List.length_drop, stF_len]; omega
      have : ((((stF w S 0 t).drop pre.sum).take k).length + 1) * (n + 2 + 1) ≤ 9 * 103 := Nat.mul_le_mul (by omega) (by omega)
      omega
    have el : (frs (strM w S t pre)).length = pre.length := by unfold DL.frs strM; rw [List.length_map, partsAt_len]
    push_cast [hMp, el]
    refine ⟨by omega, ?_⟩
    push_cast []
    refine hN _ _ ⟨fun b hb => (mput_ne hb).trans (hfr b hb), pre ++ [k], some (.int k), by simp [e], ?_, ?_⟩
    · rw [mput_same]
      unfold strM DL.frs
      rw [partsAt_snoc, List.map_append, Nat.zero_add]; rfl
    · rw [List.sum_append]; simp
  · rintro ds' M' ⟨hfr, pre, z, e, hMp, rfl⟩
    rw [List.append_nil] at e
    subst e
    exact ⟨hst _ hfr, hnx M' _ _ hfr hMp⟩
theorem p_stretch_misses {n w r : Nat} {S : List (List Rat)} {x : Dt} {t ks : List Nat} (hw : W5 w) (hr : r ≤ mostR w) (hS : Shs n w r S) (hn : 1 ≤ n) (hn2 : n ≤ 100) (ht : Dig w t) (hl : t.length = r) (hx : SeqOf M x (lenD' ks)) (hL : Lens r ks) (hl2 : ks.length ≤ 1000)
    (h : ∀ p M', M p = none → (∀ b, b ≠ p → M' b = M b) → M' p = some (.lst (frs (strM w S t ks))) → Q (.cel p) M') : f_stretch_misses [planD w r S, .str (dg t), x] M Q X := by
  have h8 := mostR_le (w := w)
  push_cast [f_stretch_misses, b_stretch_misses]
  refine up_of (p_miss_steps hw hr hS hn (by omega) ht hl ?_)
  push_cast []
  refine ⟨isPlD, up_of (p_Plan_rounds ?_)⟩
  push_cast []
  refine up_of (p_check_lengths hx hL ?_)
  push_cast only []
  push_cast only []
  intro p hp
  push_cast only []
  push_cast only []
  rcases hx with rfl | rfl | ⟨q, rfl, hq⟩
  · push_cast []
    refine strM_loop hS hn hn2 (fun _ _ => trivial) hp (by rw [hL.sum, hl]) (by omega) hl2 fun M' v z hfr hM' => ?_
    push_cast []
    exact h p M' hp hfr hM'
  · push_cast []
    refine strM_loop hS hn hn2 (fun _ _ => trivial) hp (by rw [hL.sum, hl]) (by omega) hl2 fun M' v z hfr hM' => ?_
    push_cast []
    exact h p M' hp hfr hM'
  · have hne : q ≠ p := ne_new hq hp
    have hq2 : mput M p (.lst []) q = some (.lst (lenD' ks)) := (mput_ne hne).trans hq
    push_cast [hq2]
    refine strM_loop hS hn hn2 (fun M' hfr => by rw [hfr q hne, hq]) hp (by rw [hL.sum, hl]) (by omega) hl2 fun M' v z hfr hM' => ?_
    push_cast []
    exact h p M' hp hfr hM'
theorem p_stretch_row {n w r : Nat} {S : List (List Rat)} {x : Dt} {c : List Nat} (hw : W5 w) (hr : r ≤ mostR w) (hc : ¬ RowC w r c) (hl : c.length ≤ 1000) (h : X "BadRow" [("found", .str (mkS c))] M) : f_stretch_misses [planD w r S, .str (mkS c), x] M Q X := by
  push_cast [f_stretch_misses, b_stretch_misses]
  refine up_of ?_
  push_cast [f_miss_steps, b_miss_steps]
  exact up_of (p_check_row_bad hw hr hc hl h)
theorem p_stretch_mm {n w r : Nat} {S : List (List Rat)} {x : Dt} {t ks : List Nat} (hw : W5 w) (hr : r ≤ mostR w) (hS : Shs n w r S) (hn : 1 ≤ n) (hn2 : n ≤ 100) (ht : Dig w t) (hl : t.length = r) (hx : SeqOf M x (lenD' ks)) (hk : ∀ k ∈ ks, k ≤ 8) (hsn : ks.sum ≠ r) (h : X "Mismatch" [] M) : f_stretch_misses [planD w r S, .str (dg t), x] M Q X := by
  push_cast [f_stretch_misses, b_stretch_misses]
  refine up_of (p_miss_steps hw hr hS hn (by omega) ht hl ?_)
  push_cast []
  refine ⟨isPlD, up_of (p_Plan_rounds ?_)⟩
  push_cast []
  exact up_of (p_check_lengths_mm hx hk hsn h)
theorem p_stretch_bc {n w r : Nat} {S : List (List Rat)} {x bad : Dt} {t ks : List Nat} {rest : List Dt} (hw : W5 w) (hr : r ≤ mostR w) (hS : Shs n w r S) (hn : 1 ≤ n) (hn2 : n ≤ 100) (ht : Dig w t) (hl : t.length = r) (hx : SeqOf M x (lenD' ks ++ bad :: rest)) (hk : ∀ k ∈ ks, k ≤ 8) (hb : BadC 0 8 bad) (h : X "BadCount" [("high", .int 8), ("low", .int 0), ("found", bad)] M) : f_stretch_misses [planD w r S, .str (dg t), x] M Q X := by
  push_cast [f_stretch_misses, b_stretch_misses]
  refine up_of (p_miss_steps hw hr hS hn (by omega) ht hl ?_)
  push_cast []
  refine ⟨isPlD, up_of (p_Plan_rounds ?_)⟩
  push_cast []
  exact up_of (p_check_lengths_bc hx hk hb h)
end


end LK
set_option Elab.async false
set_option linter.all false
set_option maxRecDepth 100000
set_option maxHeartbeats 1000000
namespace LK
open PySem PySem.Spec PyProof.Rows L2 DL
local macro_rules | `(tactic| push_cast [$xs,*]) => `(tactic| repeat (first
  | with_reducible refine hold_i ?_
  | simp only [q_sp, q_st_c, q_st_n, q_st_0, q_seq, q_next, q_drop, q_ret, q_retN, q_ifS, q_break, q_cont, q_asg, q_par, q_name, q_gnil, q_gcons, q_gtup, q_for, q_var0, q_varS, q_c, q_nil, q_cons, q_tup, q_lst, q_newF, q_newT, q_op, q_test,
    q_and, q_or, q_not, q_andV, q_orV, q_notV, q_if, q_call, q_callK, q_cb, q_bm, q_bm0, q_frz, q_frzC, q_neg, q_sub, q_subC, q_lc, q_lc2, q_dc, q_yes, q_wipe0, q_wipeS, q_sl, q_noPart, q_part, q_cutS, q_cutT, q_cutL, q_cutC, q_rvC, q_rvL,
    q_lvC, q_lvL, q_clC, q_sqT, q_sqL, q_sqC, q_addI, q_addS, q_addT, q_addL, q_subI, q_mulI, q_divI, q_modI, q_powI, q_cmpI, q_eqI, q_neI, q_eqStr, q_isN, q_notN, q_ixT, q_ixL, q_ixC, q_ixS, q_at0, q_at1, q_at2, q_at3, q_at4, q_at5, q_at6, q_at7, q_at8, q_at9,
    q_len, q_lenT, q_lenL, q_lenC, q_lenS, q_sum, q_sumA, q_intI, q_intS, q_str, q_abs, q_max, q_min, q_list, q_tuple, q_isi, q_tyN, q_tyB, q_tyI, q_tyS, q_tyT, q_tyL, q_tyC, q_append, q_extend, q_rng1, q_sqi, u_isN, u_isB, u_isI, u_isS, u_isT, u_isL, u_isR, u_isD, u_isO, u_isC, q_frIx0, q_frIx1, q_frTup, q_frTy, q_frLen, q_raise0, q_raiseF, q_isi2, q_make, q_fld, q_setF, q_prop, q_meth, q_callO, q_inD, q_dget, q_inS, q_revS, q_revX, q_enumS, q_enum, q_zip, q_rev, q_rng2, q_rng3, q_insert, q_reverse, q_join, q_isTyS, q_isTyL, q_cntB, q_isTyC, q_isE, q_xf, q_ones, q_callE, q_ovO, q_ovC, q_dvD, q_keyS, q_keyI, q_den, kb_NoneType_bool, kb_NoneType_int, kb_NoneType_str, kb_NoneType_tuple, kb_NoneType_list, kb_NoneType_dict, kb_bool_bool, kb_bool_int, kb_bool_str, kb_bool_tuple, kb_bool_list, kb_bool_dict, kb_int_bool, kb_int_int, kb_int_str, kb_int_tuple, kb_int_list, kb_int_dict, kb_str_bool, kb_str_int, kb_str_str, kb_str_tuple, kb_str_list, kb_str_dict, kb_tuple_bool, kb_tuple_int, kb_tuple_str, kb_tuple_tuple, kb_tuple_list, kb_tuple_dict, kb_list_bool, kb_list_int, kb_list_str, kb_list_tuple, kb_list_list, kb_list_dict, kb_dict_bool, kb_dict_int, kb_dict_str, kb_dict_tuple, kb_dict_list, kb_dict_dict, u_cast, q_ixN0, q_ixN1, q_ixN2, q_ixN3, q_ixN4, mput_mput, Option.some.injEq, Dt.lst.injEq, Dt.cel.injEq, Prod.mk.injEq, lk_pl0, lk_pl1, lk_pl2, lk_pl3,  Dt.obj.injEq,  Dt.int.injEq, exists_eq_left', exists_eq_left, exists_and_left, u_mapC, u_mapE,  not_true_eq_false, not_false_eq_true, eq_self, u_size, Nat.reduceLeDiff, Nat.reduceLT, 
    u_set0, u_setS, u_lenC, u_lenN, List.append_nil, u_nilA, u_consA, u_mapS, u_mapN, u_bindS, u_bindN, mput_same,
    true_and, and_true, decide_eq_true_eq, Bool.not_eq_true', decide_eq_false_iff_not, u_notT, u_notF, if_true, if_false, ite_true, ite_false, Bool.false_eq_true, reduceCtorEq, reduceIte, Nat.reduceAdd, $xs,*]))
local macro_rules | `(tactic| push_cast only [$xs,*]) => `(tactic| (try with_reducible refine hold_i ?_); (simp only [q_sp, q_st_c, q_st_n, q_st_0, q_seq, q_next, q_drop, q_ret, q_retN, q_ifS, q_break, q_cont, q_asg, q_par, q_name, q_gnil, q_gcons, q_gtup, q_for, q_var0, q_varS, q_c, q_nil, q_cons, q_tup, q_lst, q_newF, q_newT, q_op, q_test,
    q_and, q_or, q_not, q_andV, q_orV, q_notV, q_if, q_call, q_callK, q_cb, q_bm, q_bm0, q_frz, q_frzC, q_neg, q_sub, q_subC, q_lc, q_lc2, q_dc, q_yes, q_wipe0, q_wipeS, q_sl, q_noPart, q_part, q_cutS, q_cutT, q_cutL, q_cutC, q_rvC, q_rvL,
    q_lvC, q_lvL, q_clC, q_sqT, q_sqL, q_sqC, q_addI, q_addS, q_addT, q_addL, q_subI, q_mulI, q_divI, q_modI, q_powI, q_cmpI, q_eqI, q_neI, q_eqStr, q_isN, q_notN, q_ixT, q_ixL, q_ixC, q_ixS, q_at0, q_at1, q_at2, q_at3, q_at4, q_at5, q_at6, q_at7, q_at8, q_at9,
    q_len, q_lenT, q_lenL, q_lenC, q_lenS, q_sum, q_sumA, q_intI, q_intS, q_str, q_abs, q_max, q_min, q_list, q_tuple, q_isi, q_tyN, q_tyB, q_tyI, q_tyS, q_tyT, q_tyL, q_tyC, q_append, q_extend, q_rng1, q_sqi, u_isN, u_isB, u_isI, u_isS, u_isT, u_isL, u_isR, u_isD, u_isO, u_isC, q_frIx0, q_frIx1, q_frTup, q_frTy, q_frLen, q_raise0, q_raiseF, q_isi2, q_make, q_fld, q_setF, q_prop, q_meth, q_callO, q_inD, q_dget, q_inS, q_revS, q_revX, q_enumS, q_enum, q_zip, q_rev, q_rng2, q_rng3, q_insert, q_reverse, q_join, q_isTyS, q_isTyL, q_cntB, q_isTyC, q_isE, q_xf, q_ones, q_callE, q_ovO, q_ovC, q_dvD, q_keyS, q_keyI, q_den, kb_NoneType_bool, kb_NoneType_int, kb_NoneType_str, kb_NoneType_tuple, kb_NoneType_list, kb_NoneType_dict, kb_bool_bool, kb_bool_int, kb_bool_str, kb_bool_tuple, kb_bool_list, kb_bool_dict, kb_int_bool, kb_int_int, kb_int_str, kb_int_tuple, kb_int_list, kb_int_dict, kb_str_bool, kb_str_int, kb_str_str, kb_str_tuple, kb_str_list, kb_str_dict, kb_tuple_bool, kb_tuple_int, kb_tuple_str, kb_tuple_tuple, kb_tuple_list, kb_tuple_dict, kb_list_bool, kb_list_int, kb_list_str, kb_list_tuple, kb_list_list, kb_list_dict, kb_dict_bool, kb_dict_int, kb_dict_str, kb_dict_tuple, kb_dict_list, kb_dict_dict, u_cast, q_ixN0, q_ixN1, q_ixN2, q_ixN3, q_ixN4, mput_mput, Option.some.injEq, Dt.lst.injEq, Dt.cel.injEq, Prod.mk.injEq, lk_pl0, lk_pl1, lk_pl2, lk_pl3,  Dt.obj.injEq,  Dt.int.injEq, exists_eq_left', exists_eq_left, exists_and_left, u_mapC, u_mapE,  not_true_eq_false, not_false_eq_true, eq_self, u_size, Nat.reduceLeDiff, Nat.reduceLT, 
    u_set0, u_setS, u_lenC, u_lenN, List.append_nil, u_nilA, u_consA, u_mapS, u_mapN, u_bindS, u_bindN, mput_same,
    true_and, and_true, decide_eq_true_eq, Bool.not_eq_true', decide_eq_false_iff_not, u_notT, u_notF, if_true, if_false, ite_true, ite_false, Bool.false_eq_true, reduceCtorEq, reduceIte, Nat.reduceAdd, $xs,*]))
section
variable {M : Mm} {Q : DQ} {X : DX}
theorem dk_BadCount_BadCount : decide ((Str.ofString "BadCount" : Str) = Str.ofString "BadCount") = true := by decide +kernel
theorem dk_BadCount_BadName : decide ((Str.ofString "BadCount" : Str) = Str.ofString "BadName") = false := by decide +kernel
theorem dk_BadCount_BadNumber : decide ((Str.ofString "BadCount" : Str) = Str.ofString "BadNumber") = false := by decide +kernel
theorem dk_BadCount_WrongKind : decide ((Str.ofString "BadCount" : Str) = Str.ofString "WrongKind") = false := by decide +kernel
theorem dk_BadCount_BadShare : decide ((Str.ofString "BadCount" : Str) = Str.ofString "BadShare") = false := by decide +kernel
theorem dk_BadCount_BadSize : decide ((Str.ofString "BadCount" : Str) = Str.ofString "BadSize") = false := by decide +kernel
theorem dk_BadCount_BadText : decide ((Str.ofString "BadCount" : Str) = Str.ofString "BadText") = false := by decide +kernel
theorem dk_BadCount_BadWeight : decide ((Str.ofString "BadCount" : Str) = Str.ofString "BadWeight") = false := by decide +kernel
theorem dk_BadCount_GameOver : decide ((Str.ofString "BadCount" : Str) = Str.ofString "GameOver") = false := by decide +kernel
theorem dk_BadCount_InUse : decide ((Str.ofString "BadCount" : Str) = Str.ofString "InUse") = false := by decide +kernel
theorem dk_BadCount_Lacking : decide ((Str.ofString "BadCount" : Str) = Str.ofString "Lacking") = false := by decide +kernel
theorem dk_BadCount_NoHelper : decide ((Str.ofString "BadCount" : Str) = Str.ofString "NoHelper") = false := by decide +kernel
theorem dk_BadCount_BadRow : decide ((Str.ofString "BadCount" : Str) = Str.ofString "BadRow") = false := by decide +kernel
theorem dk_BadCount_Mismatch : decide ((Str.ofString "BadCount" : Str) = Str.ofString "Mismatch") = false := by decide +kernel
theorem dk_BadCount_NotExact : decide ((Str.ofString "BadCount" : Str) = Str.ofString "NotExact") = false := by decide +kernel
theorem dk_BadCount_TakenName : decide ((Str.ofString "BadCount" : Str) = Str.ofString "TakenName") = false := by decide +kernel
theorem dk_BadCount_DivisionByZero : decide ((Str.ofString "BadCount" : Str) = Str.ofString "DivisionByZero") = false := by decide +kernel
theorem dk_BadCount_NothingToTakeBack : decide ((Str.ofString "BadCount" : Str) = Str.ofString "NothingToTakeBack") = false := by decide +kernel
theorem dk_BadCount_UnknownName : decide ((Str.ofString "BadCount" : Str) = Str.ofString "UnknownName") = false := by decide +kernel
theorem dk_BadRow_BadCount : decide ((Str.ofString "BadRow" : Str) = Str.ofString "BadCount") = false := by decide +kernel
theorem dk_BadRow_BadName : decide ((Str.ofString "BadRow" : Str) = Str.ofString "BadName") = false := by decide +kernel
theorem dk_BadRow_BadNumber : decide ((Str.ofString "BadRow" : Str) = Str.ofString "BadNumber") = false := by decide +kernel
theorem dk_BadRow_WrongKind : decide ((Str.ofString "BadRow" : Str) = Str.ofString "WrongKind") = false := by decide +kernel
theorem dk_BadRow_BadShare : decide ((Str.ofString "BadRow" : Str) = Str.ofString "BadShare") = false := by decide +kernel
theorem dk_BadRow_BadSize : decide ((Str.ofString "BadRow" : Str) = Str.ofString "BadSize") = false := by decide +kernel
theorem dk_BadRow_BadText : decide ((Str.ofString "BadRow" : Str) = Str.ofString "BadText") = false := by decide +kernel
theorem dk_BadRow_BadWeight : decide ((Str.ofString "BadRow" : Str) = Str.ofString "BadWeight") = false := by decide +kernel
theorem dk_BadRow_GameOver : decide ((Str.ofString "BadRow" : Str) = Str.ofString "GameOver") = false := by decide +kernel
theorem dk_BadRow_InUse : decide ((Str.ofString "BadRow" : Str) = Str.ofString "InUse") = false := by decide +kernel
theorem dk_BadRow_Lacking : decide ((Str.ofString "BadRow" : Str) = Str.ofString "Lacking") = false := by decide +kernel
theorem dk_BadRow_NoHelper : decide ((Str.ofString "BadRow" : Str) = Str.ofString "NoHelper") = false := by decide +kernel
theorem dk_BadRow_BadRow : decide ((Str.ofString "BadRow" : Str) = Str.ofString "BadRow") = true := by decide +kernel
theorem dk_BadRow_Mismatch : decide ((Str.ofString "BadRow" : Str) = Str.ofString "Mismatch") = false := by decide +kernel
theorem dk_BadRow_NotExact : decide ((Str.ofString "BadRow" : Str) = Str.ofString "NotExact") = false := by decide +kernel
theorem dk_BadRow_TakenName : decide ((Str.ofString "BadRow" : Str) = Str.ofString "TakenName") = false := by decide +kernel
theorem dk_BadRow_DivisionByZero : decide ((Str.ofString "BadRow" : Str) = Str.ofString "DivisionByZero") = false := by decide +kernel
theorem dk_BadRow_NothingToTakeBack : decide ((Str.ofString "BadRow" : Str) = Str.ofString "NothingToTakeBack") = false := by decide +kernel
theorem dk_BadRow_UnknownName : decide ((Str.ofString "BadRow" : Str) = Str.ofString "UnknownName") = false := by decide +kernel
theorem dk_Mismatch_BadCount : decide ((Str.ofString "Mismatch" : Str) = Str.ofString "BadCount") = false := by decide +kernel
theorem dk_Mismatch_BadName : decide ((Str.ofString "Mismatch" : Str) = Str.ofString "BadName") = false := by decide +kernel
theorem dk_Mismatch_BadNumber : decide ((Str.ofString "Mismatch" : Str) = Str.ofString "BadNumber") = false := by decide +kernel
theorem dk_Mismatch_WrongKind : decide ((Str.ofString "Mismatch" : Str) = Str.ofString "WrongKind") = false := by decide +kernel
theorem dk_Mismatch_BadShare : decide ((Str.ofString "Mismatch" : Str) = Str.ofString "BadShare") = false := by decide +kernel
theorem dk_Mismatch_BadSize : decide ((Str.ofString "Mismatch" : Str) = Str.ofString "BadSize") = false := by decide +kernel
theorem dk_Mismatch_BadText : decide ((Str.ofString "Mismatch" : Str) = Str.ofString "BadText") = false := by decide +kernel
theorem dk_Mismatch_BadWeight : decide ((Str.ofString "Mismatch" : Str) = Str.ofString "BadWeight") = false := by decide +kernel
theorem dk_Mismatch_GameOver : decide ((Str.ofString "Mismatch" : Str) = Str.ofString "GameOver") = false := by decide +kernel
theorem dk_Mismatch_InUse : decide ((Str.ofString "Mismatch" : Str) = Str.ofString "InUse") = false := by decide +kernel
theorem dk_Mismatch_Lacking : decide ((Str.ofString "Mismatch" : Str) = Str.ofString "Lacking") = false := by decide +kernel
theorem dk_Mismatch_NoHelper : decide ((Str.ofString "Mismatch" : Str) = Str.ofString "NoHelper") = false := by decide +kernel
theorem dk_Mismatch_BadRow : decide ((Str.ofString "Mismatch" : Str) = Str.ofString "BadRow") = false := by decide +kernel
theorem dk_Mismatch_Mismatch : decide ((Str.ofString "Mismatch" : Str) = Str.ofString "Mismatch") = true := by decide +kernel
theorem dk_Mismatch_NotExact : decide ((Str.ofString "Mismatch" : Str) = Str.ofString "NotExact") = false := by decide +kernel
theorem dk_Mismatch_TakenName : decide ((Str.ofString "Mismatch" : Str) = Str.ofString "TakenName") = false := by decide +kernel
theorem dk_Mismatch_DivisionByZero : decide ((Str.ofString "Mismatch" : Str) = Str.ofString "DivisionByZero") = false := by decide +kernel
theorem dk_Mismatch_NothingToTakeBack : decide ((Str.ofString "Mismatch" : Str) = Str.ofString "NothingToTakeBack") = false := by decide +kernel
theorem dk_Mismatch_UnknownName : decide ((Str.ofString "Mismatch" : Str) = Str.ofString "UnknownName") = false := by decide +kernel
theorem lk_bc0 {a b c : Dt} : List.lookup ("found" : Str) ([("high", a), ("low", b), ("found", c)] : List (Str × Dt)) = some c := by
  rw [look_cons (by decide +kernel), look_cons (by decide +kernel), look_here]
theorem lk_bc1 {a b c : Dt} : List.lookup ("low" : Str) ([("high", a), ("low", b), ("found", c)] : List (Str × Dt)) = some b := by
  rw [look_cons (by decide +kernel), look_here]
theorem lk_bc2 {a b c : Dt} : List.lookup ("high" : Str) ([("high", a), ("low", b), ("found", c)] : List (Str × Dt)) = some a := look_here
theorem lk_br {a : Dt} : List.lookup ("found" : Str) ([("found", a)] : List (Str × Dt)) = some a := look_here
theorem sm_bad {n : Nat} {lo hi : Int} {d : Dt} (h : BadC lo hi d) : Sm (n + 1) d := by
  rcases h with ⟨i, rfl, _⟩ | ⟨b, rfl⟩ <;> trivial
theorem addCL {m : Bool} {a : Addr} {xs ys : List Dt} (ha : M a = some (.lst xs)) (h : xs.length + ys.length ≤ sizeLine ∧ newL m (xs ++ ys) M Q) : dAddR m (.cel a) (.lst ys) M Q := by
  refine .inr (.inr (.inr ?_))
  show (match lview M (.cel a), lview M (.lst ys) with | some xs, some ys => xs.length + ys.length ≤ sizeLine ∧ newL m (xs ++ ys) M Q | _, _ => False)
  rw [lview_cel ha]
  exact h
/-- lengths that are refused, and as what -/
def BadL (M : Mm) (n : Nat) (x due : Dt) : Prop :=
  (∃ (ks : List Nat) (bad : Dt) (rest : List Dt), SeqOf M x (lenD' ks ++ bad :: rest) ∧ (∀ k ∈ ks, k ≤ 8) ∧ BadC 0 8 bad ∧ due = .tup [.str "BadCount", bad, .int 0, .int 8]) ∨
  ∃ ks : List Nat, SeqOf M x (lenD' ks) ∧ (∀ k ∈ ks, k ≤ 8) ∧ ks.sum ≠ n ∧ due = .tup [.str "Mismatch"]
end


end LK
set_option Elab.async false
set_option linter.all false
set_option maxRecDepth 100000
set_option maxHeartbeats 1000000
namespace LK
open PySem PySem.Spec PyProof.Rows L2 DL
local macro_rules | `(tactic| push_cast [$xs,*]) => `(tactic| repeat (first
  | with_reducible refine hold_i ?_
  | simp only [q_sp, q_st_c, q_st_n, q_st_0, q_seq, q_next, q_drop, q_ret, q_retN, q_ifS, q_break, q_cont, q_asg, q_par, q_name, q_gnil, q_gcons, q_gtup, q_for, q_var0, q_varS, q_c, q_nil, q_cons, q_tup, q_lst, q_newF, q_newT, q_op, q_test,
    q_and, q_or, q_not, q_andV, q_orV, q_notV, q_if, q_call, q_callK, q_cb, q_bm, q_bm0, q_frz, q_frzC, q_neg, q_sub, q_subC, q_lc, q_lc2, q_dc, q_yes, q_wipe0, q_wipeS, q_sl, q_noPart, q_part, q_cutS, q_cutT, q_cutL, q_cutC, q_rvC, q_rvL,
    q_lvC, q_lvL, q_clC, q_sqT, q_sqL, q_sqC, q_addI, q_addS, q_addT, q_addL, q_subI, q_mulI, q_divI, q_modI, q_powI, q_cmpI, q_eqI, q_neI, q_eqStr, q_isN, q_notN, q_ixT, q_ixL, q_ixC, q_ixS, q_at0, q_at1, q_at2, q_at3, q_at4, q_at5, q_at6, q_at7, q_at8, q_at9,
    q_len, q_lenT, q_lenL, q_lenC, q_lenS, q_sum, q_sumA, q_intI, q_intS, q_str, q_abs, q_max, q_min, q_list, q_tuple, q_isi, q_tyN, q_tyB, q_tyI, q_tyS, q_tyT, q_tyL, q_tyC, q_append, q_extend, q_rng1, q_sqi, u_isN, u_isB, u_isI, u_isS, u_isT, u_isL, u_isR, u_isD, u_isO, u_isC, q_frIx0, q_frIx1, q_frTup, q_frTy, q_frLen, q_raise0, q_raiseF, q_isi2, q_make, q_fld, q_setF, q_prop, q_meth, q_callO, q_inD, q_dget, q_inS, q_revS, q_revX, q_enumS, q_enum, q_zip, q_rev, q_rng2, q_rng3, q_insert, q_reverse, q_join, q_isTyS, q_isTyL, q_cntB, q_isTyC, q_isE, q_xf, q_ones, q_callE, q_ovO, q_ovC, q_dvD, q_keyS, q_keyI, q_den, kb_NoneType_bool, kb_NoneType_int, kb_NoneType_str, kb_NoneType_tuple, kb_NoneType_list, kb_NoneType_dict, kb_bool_bool, kb_bool_int, kb_bool_str, kb_bool_tuple, kb_bool_list, kb_bool_dict, kb_int_bool, kb_int_int, kb_int_str, kb_int_tuple, kb_int_list, kb_int_dict, kb_str_bool, kb_str_int, kb_str_str, kb_str_tuple, kb_str_list, kb_str_dict, kb_tuple_bool, kb_tuple_int, kb_tuple_str, kb_tuple_tuple, kb_tuple_list, kb_tuple_dict, kb_list_bool, kb_list_int, kb_list_str, kb_list_tuple, kb_list_list, kb_list_dict, kb_dict_bool, kb_dict_int, kb_dict_str, kb_dict_tuple, kb_dict_list, kb_dict_dict, u_cast, q_ixN0, q_ixN1, q_ixN2, q_ixN3, q_ixN4, mput_mput, Option.some.injEq, Dt.lst.injEq, Dt.cel.injEq, Prod.mk.injEq, lk_pl0, lk_pl1, lk_pl2, lk_pl3,  Dt.obj.injEq,  Dt.int.injEq, exists_eq_left', exists_eq_left, exists_and_left, u_mapC, u_mapE,  not_true_eq_false, not_false_eq_true, eq_self, u_size, Nat.reduceLeDiff, Nat.reduceLT, 
    u_set0, u_setS, u_lenC, u_lenN, List.append_nil, u_nilA, u_consA, u_mapS, u_mapN, u_bindS, u_bindN, mput_same,
    true_and, and_true, decide_eq_true_eq, Bool.not_eq_true', decide_eq_false_iff_not, u_notT, u_notF, if_true, if_false, ite_true, ite_false, Bool.false_eq_true, reduceCtorEq, reduceIte, Nat.reduceAdd, $xs,*]))
local macro_rules | `(tactic| push_cast only [$xs,*]) => `(tactic| (try with_reducible refine hold_i ?_); (simp only [q_sp, q_st_c, q_st_n, q_st_0, q_seq, q_next, q_drop, q_ret, q_retN, q_ifS, q_break, q_cont, q_asg, q_par, q_name, q_gnil, q_gcons, q_gtup, q_for, q_var0, q_varS, q_c, q_nil, q_cons, q_tup, q_lst, q_newF, q_newT, q_op, q_test,
    q_and, q_or, q_not, q_andV, q_orV, q_notV, q_if, q_call, q_callK, q_cb, q_bm, q_bm0, q_frz, q_frzC, q_neg, q_sub, q_subC, q_lc, q_lc2, q_dc, q_yes, q_wipe0, q_wipeS, q_sl, q_noPart, q_part, q_cutS, q_cutT, q_cutL, q_cutC, q_rvC, q_rvL,
    q_lvC, q_lvL, q_clC, q_sqT, q_sqL, q_sqC, q_addI, q_addS, q_addT, q_addL, q_subI, q_mulI, q_divI, q_modI, q_powI, q_cmpI, q_eqI, q_neI, q_eqStr, q_isN, q_notN, q_ixT, q_ixL, q_ixC, q_ixS, q_at0, q_at1, q_at2, q_at3, q_at4, q_at5, q_at6, q_at7, q_at8, q_at9,
    q_len, q_lenT, q_lenL, q_lenC, q_lenS, q_sum, q_sumA, q_intI, q_intS, q_str, q_abs, q_max, q_min, q_list, q_tuple, q_isi, q_tyN, q_tyB, q_tyI, q_tyS, q_tyT, q_tyL, q_tyC, q_append, q_extend, q_rng1, q_sqi, u_isN, u_isB, u_isI, u_isS, u_isT, u_isL, u_isR, u_isD, u_isO, u_isC, q_frIx0, q_frIx1, q_frTup, q_frTy, q_frLen, q_raise0, q_raiseF, q_isi2, q_make, q_fld, q_setF, q_prop, q_meth, q_callO, q_inD, q_dget, q_inS, q_revS, q_revX, q_enumS, q_enum, q_zip, q_rev, q_rng2, q_rng3, q_insert, q_reverse, q_join, q_isTyS, q_isTyL, q_cntB, q_isTyC, q_isE, q_xf, q_ones, q_callE, q_ovO, q_ovC, q_dvD, q_keyS, q_keyI, q_den, kb_NoneType_bool, kb_NoneType_int, kb_NoneType_str, kb_NoneType_tuple, kb_NoneType_list, kb_NoneType_dict, kb_bool_bool, kb_bool_int, kb_bool_str, kb_bool_tuple, kb_bool_list, kb_bool_dict, kb_int_bool, kb_int_int, kb_int_str, kb_int_tuple, kb_int_list, kb_int_dict, kb_str_bool, kb_str_int, kb_str_str, kb_str_tuple, kb_str_list, kb_str_dict, kb_tuple_bool, kb_tuple_int, kb_tuple_str, kb_tuple_tuple, kb_tuple_list, kb_tuple_dict, kb_list_bool, kb_list_int, kb_list_str, kb_list_tuple, kb_list_list, kb_list_dict, kb_dict_bool, kb_dict_int, kb_dict_str, kb_dict_tuple, kb_dict_list, kb_dict_dict, u_cast, q_ixN0, q_ixN1, q_ixN2, q_ixN3, q_ixN4, mput_mput, Option.some.injEq, Dt.lst.injEq, Dt.cel.injEq, Prod.mk.injEq, lk_pl0, lk_pl1, lk_pl2, lk_pl3,  Dt.obj.injEq,  Dt.int.injEq, exists_eq_left', exists_eq_left, exists_and_left, u_mapC, u_mapE,  not_true_eq_false, not_false_eq_true, eq_self, u_size, Nat.reduceLeDiff, Nat.reduceLT, 
    u_set0, u_setS, u_lenC, u_lenN, List.append_nil, u_nilA, u_consA, u_mapS, u_mapN, u_bindS, u_bindN, mput_same,
    true_and, and_true, decide_eq_true_eq, Bool.not_eq_true', decide_eq_false_iff_not, u_notT, u_notF, if_true, if_false, ite_true, ite_false, Bool.false_eq_true, reduceCtorEq, reduceIte, Nat.reduceAdd, $xs,*]))
section
variable {M : Mm} {Q : DQ} {X : DX}
theorem sign_digit {w : Nat} (hw : W5 w) : Str.ofString (toString (w : Int)) = mkS [w + 48] := by
  rcases hw.cases with rfl | rfl | rfl | rfl | rfl <;> decide +kernel
theorem digit_str {i : Nat} (h : i < 5) : Str.ofString (toString (i : Int)) = mkS [i + 48] := by
  have : i = 0 ∨ i = 1 ∨ i = 2 ∨ i = 3 ∨ i = 4 := by omega
  rcases this with rfl | rfl | rfl | rfl | rfl <;> decide +kernel
theorem small_log {i : Nat} (h : i ≤ 5) : ((i : Int).natAbs).log2 < 1920 := by
  have : i = 0 ∨ i = 1 ∨ i = 2 ∨ i = 3 ∨ i = 4 ∨ i = 5 := by omega
  rcases this with rfl | rfl | rfl | rfl | rfl | rfl <;> decide
end


end LK
set_option Elab.async false
set_option linter.all false
set_option maxRecDepth 100000
set_option maxHeartbeats 1000000
namespace LK
open PySem PySem.Spec PyProof.Rows L2 DL
local macro_rules | `(tactic| push_cast [$xs,*]) => `(tactic| repeat (first
  | with_reducible refine hold_i ?_
  | simp only [q_sp, q_st_c, q_st_n, q_st_0, q_seq, q_next, q_drop, q_ret, q_retN, q_ifS, q_break, q_cont, q_asg, q_par, q_name, q_gnil, q_gcons, q_gtup, q_for, q_var0, q_varS, q_c, q_nil, q_cons, q_tup, q_lst, q_newF, q_newT, q_op, q_test,
    q_and, q_or, q_not, q_andV, q_orV, q_notV, q_if, q_call, q_callK, q_cb, q_bm, q_bm0, q_frz, q_frzC, q_neg, q_sub, q_subC, q_lc, q_lc2, q_dc, q_yes, q_wipe0, q_wipeS, q_sl, q_noPart, q_part, q_cutS, q_cutT, q_cutL, q_cutC, q_rvC, q_rvL,
    q_lvC, q_lvL, q_clC, q_sqT, q_sqL, q_sqC, q_addI, q_addS, q_addT, q_addL, q_subI, q_mulI, q_divI, q_modI, q_powI, q_cmpI, q_eqI, q_neI, q_eqStr, q_isN, q_notN, q_ixT, q_ixL, q_ixC, q_ixS, q_at0, q_at1, q_at2, q_at3, q_at4, q_at5, q_at6, q_at7, q_at8, q_at9,
    q_len, q_lenT, q_lenL, q_lenC, q_lenS, q_sum, q_sumA, q_intI, q_intS, q_str, q_abs, q_max, q_min, q_list, q_tuple, q_isi, q_tyN, q_tyB, q_tyI, q_tyS, q_tyT, q_tyL, q_tyC, q_append, q_extend, q_rng1, q_sqi, u_isN, u_isB, u_isI, u_isS, u_isT, u_isL, u_isR, u_isD, u_isO, u_isC, q_frIx0, q_frIx1, q_frTup, q_frTy, q_frLen, q_raise0, q_raiseF, q_isi2, q_make, q_fld, q_setF, q_prop, q_meth, q_callO, q_inD, q_dget, q_inS, q_revS, q_revX, q_enumS, q_enum, q_zip, q_rev, q_rng2, q_rng3, q_insert, q_reverse, q_join, q_isTyS, q_isTyL, q_cntB, q_isTyC, q_isE, q_xf, q_ones, q_callE, q_ovO, q_ovC, q_dvD, q_keyS, q_keyI, q_den, kb_NoneType_bool, kb_NoneType_int, kb_NoneType_str, kb_NoneType_tuple, kb_NoneType_list, kb_NoneType_dict, kb_bool_bool, kb_bool_int, kb_bool_str, kb_bool_tuple, kb_bool_list, kb_bool_dict, kb_int_bool, kb_int_int, kb_int_str, kb_int_tuple, kb_int_list, kb_int_dict, kb_str_bool, kb_str_int, kb_str_str, kb_str_tuple, kb_str_list, kb_str_dict, kb_tuple_bool, kb_tuple_int, kb_tuple_str, kb_tuple_tuple, kb_tuple_list, kb_tuple_dict, kb_list_bool, kb_list_int, kb_list_str, kb_list_tuple, kb_list_list, kb_list_dict, kb_dict_bool, kb_dict_int, kb_dict_str, kb_dict_tuple, kb_dict_list, kb_dict_dict, u_cast, q_ixN0, q_ixN1, q_ixN2, q_ixN3, q_ixN4, mput_mput, Option.some.injEq, Dt.lst.injEq, Dt.cel.injEq, Prod.mk.injEq, lk_pl0, lk_pl1, lk_pl2, lk_pl3,  Dt.obj.injEq,  Dt.int.injEq, exists_eq_left', exists_eq_left, exists_and_left, u_mapC, u_mapE,  not_true_eq_false, not_false_eq_true, eq_self, u_size, Nat.reduceLeDiff, Nat.reduceLT, 
    u_set0, u_setS, u_lenC, u_lenN, List.append_nil, u_nilA, u_consA, u_mapS, u_mapN, u_bindS, u_bindN, mput_same,
    true_and, and_true, decide_eq_true_eq, Bool.not_eq_true', decide_eq_false_iff_not, u_notT, u_notF, if_true, if_false, ite_true, ite_false, Bool.false_eq_true, reduceCtorEq, reduceIte, Nat.reduceAdd, $xs,*]))
local macro_rules | `(tactic| push_cast only [$xs,*]) => `(tactic| (try with_reducible refine hold_i ?_); (simp only [q_sp, q_st_c, q_st_n, q_st_0, q_seq, q_next, q_drop, q_ret, q_retN, q_ifS, q_break, q_cont, q_asg, q_par, q_name, q_gnil, q_gcons, q_gtup, q_for, q_var0, q_varS, q_c, q_nil, q_cons, q_tup, q_lst, q_newF, q_newT, q_op, q_test,
    q_and, q_or, q_not, q_andV, q_orV, q_notV, q_if, q_call, q_callK, q_cb, q_bm, q_bm0, q_frz, q_frzC, q_neg, q_sub, q_subC, q_lc, q_lc2, q_dc, q_yes, q_wipe0, q_wipeS, q_sl, q_noPart, q_part, q_cutS, q_cutT, q_cutL, q_cutC, q_rvC, q_rvL,
    q_lvC, q_lvL, q_clC, q_sqT, q_sqL, q_sqC, q_addI, q_addS, q_addT, q_addL, q_subI, q_mulI, q_divI, q_modI, q_powI, q_cmpI, q_eqI, q_neI, q_eqStr, q_isN, q_notN, q_ixT, q_ixL, q_ixC, q_ixS, q_at0, q_at1, q_at2, q_at3, q_at4, q_at5, q_at6, q_at7, q_at8, q_at9,
    q_len, q_lenT, q_lenL, q_lenC, q_lenS, q_sum, q_sumA, q_intI, q_intS, q_str, q_abs, q_max, q_min, q_list, q_tuple, q_isi, q_tyN, q_tyB, q_tyI, q_tyS, q_tyT, q_tyL, q_tyC, q_append, q_extend, q_rng1, q_sqi, u_isN, u_isB, u_isI, u_isS, u_isT, u_isL, u_isR, u_isD, u_isO, u_isC, q_frIx0, q_frIx1, q_frTup, q_frTy, q_frLen, q_raise0, q_raiseF, q_isi2, q_make, q_fld, q_setF, q_prop, q_meth, q_callO, q_inD, q_dget, q_inS, q_revS, q_revX, q_enumS, q_enum, q_zip, q_rev, q_rng2, q_rng3, q_insert, q_reverse, q_join, q_isTyS, q_isTyL, q_cntB, q_isTyC, q_isE, q_xf, q_ones, q_callE, q_ovO, q_ovC, q_dvD, q_keyS, q_keyI, q_den, kb_NoneType_bool, kb_NoneType_int, kb_NoneType_str, kb_NoneType_tuple, kb_NoneType_list, kb_NoneType_dict, kb_bool_bool, kb_bool_int, kb_bool_str, kb_bool_tuple, kb_bool_list, kb_bool_dict, kb_int_bool, kb_int_int, kb_int_str, kb_int_tuple, kb_int_list, kb_int_dict, kb_str_bool, kb_str_int, kb_str_str, kb_str_tuple, kb_str_list, kb_str_dict, kb_tuple_bool, kb_tuple_int, kb_tuple_str, kb_tuple_tuple, kb_tuple_list, kb_tuple_dict, kb_list_bool, kb_list_int, kb_list_str, kb_list_tuple, kb_list_list, kb_list_dict, kb_dict_bool, kb_dict_int, kb_dict_str, kb_dict_tuple, kb_dict_list, kb_dict_dict, u_cast, q_ixN0, q_ixN1, q_ixN2, q_ixN3, q_ixN4, mput_mput, Option.some.injEq, Dt.lst.injEq, Dt.cel.injEq, Prod.mk.injEq, lk_pl0, lk_pl1, lk_pl2, lk_pl3,  Dt.obj.injEq,  Dt.int.injEq, exists_eq_left', exists_eq_left, exists_and_left, u_mapC, u_mapE,  not_true_eq_false, not_false_eq_true, eq_self, u_size, Nat.reduceLeDiff, Nat.reduceLT, 
    u_set0, u_setS, u_lenC, u_lenN, List.append_nil, u_nilA, u_consA, u_mapS, u_mapN, u_bindS, u_bindN, mput_same,
    true_and, and_true, decide_eq_true_eq, Bool.not_eq_true', decide_eq_false_iff_not, u_notT, u_notF, if_true, if_false, ite_true, ite_false, Bool.false_eq_true, reduceCtorEq, reduceIte, Nat.reduceAdd, $xs,*]))
section
variable {M : Mm} {Q : DQ} {X : DX}
theorem sm_len {n : Nat} {ks : List Nat} (h : ks.length ≤ 1000) : Sm (n + 2) (.lst (lenD' ks)) := by
  refine ⟨by unfold lenD'; rw [List.length_map]; omega, fun x hx => ?_⟩
  obtain ⟨k, _, rfl⟩ := List.mem_map.mp hx
  trivial
theorem sm_ints {n : Nat} {ks : List Int} (h : ks.length ≤ 1000) : Sm (n + 2) (.lst (ks.map .int)) := by
  refine ⟨by rw [List.length_map]; omega, fun x hx => ?_⟩
  obtain ⟨k, _, rfl⟩ := List.mem_map.mp hx
  trivial
theorem sm_frs {n : Nat} {qs : List Rat} (h : qs.length ≤ 1000) : Sm (n + 3) (.lst (frs qs)) := by
  refine ⟨by unfold DL.frs; rw [List.length_map]; omega, fun x hx => ?_⟩
  obtain ⟨k, _, rfl⟩ := List.mem_map.mp hx
  exact sm_fr
theorem flat_ints {ks : List Int} : ∀ x ∈ ks.map Dt.int, Flat x := fun x hx => by
  obtain ⟨k, _, rfl⟩ := List.mem_map.mp hx
  trivial
theorem flat_len {ks : List Nat} : ∀ x ∈ lenD' ks, Flat x := fun x hx => by
  obtain ⟨k, _, rfl⟩ := List.mem_map.mp hx
  trivial
theorem flat_frs {ks : List Rat} : ∀ x ∈ frs ks, Flat x := fun x hx => by
  obtain ⟨k, _, rfl⟩ := List.mem_map.mp hx
  trivial
theorem flat_strs {ls : List (List Nat)} : ∀ x ∈ ls.map (fun l => Dt.str (mkS l)), Flat x := fun x hx => by
  obtain ⟨k, _, rfl⟩ := List.mem_map.mp hx
  trivial
theorem keep_new {M M' : Mm} {p : Addr} (hp : M p = none) (h : ∀ b, b ≠ p → M' b = M b) : ∀ b d, M b = some d → M' b = some d := fun b d e => (h b (ne_new e hp)).trans e
theorem dr_cell {a p : Addr} {M M1 M2 : Mm} (hd : Dr a M M1) (hpa : p ≠ a) (hp : M p = none) (h : ∀ b, b ≠ p → M2 b = M1 b) : Dr a M M2 :=
  ⟨by obtain ⟨s, e, k⟩ := hd.ok; exact ⟨s, (h a (Ne.symm hpa)).trans e, k⟩, fun b d hb e => (h b (ne_new e hp)).trans (hd.fr b d hb e)⟩
theorem dblL_len {n : Nat} : (dblL n).length ≤ n := dblG_len n n 1
theorem mem_Cs1 : (Str.ofString "BadCount") ∈ Cs := by decide +kernel
theorem mem_Cs2 : (Str.ofString "BadRow") ∈ Cs := by decide +kernel
theorem mem_Cs3 : (Str.ofString "Mismatch") ∈ Cs := by decide +kernel
theorem undig {w : Nat} : ∀ {c : List Nat}, (∀ x ∈ c, x ∈ (List.range w).map (· + 48)) → ∃ t, c = t.map (· + 48) ∧ Dig w t
  | [], _ => ⟨[], rfl, fun _ h => by cases h⟩
  | x :: c, h => by
    obtain ⟨t, e, ht⟩ := undig (c := c) fun y hy => h y (List.mem_cons_of_mem _ hy)
    obtain ⟨d, hd, e2⟩ := List.mem_map.mp (h x List.mem_cons_self)
    refine ⟨d :: t, by rw [List.map_cons, e, ← e2], fun y hy => ?_⟩
    rcases List.mem_cons.mp hy with h1 | h1
    · rw [h1]; exact List.mem_range.mp hd
    · exact ht y h1
theorem strM_len {w : Nat} {S : List (List Rat)} {t ks : List Nat} : (strM w S t ks).length = ks.length := partsAt_len ks 0
end


end LK
set_option Elab.async false
set_option linter.all false
set_option maxRecDepth 100000
set_option maxHeartbeats 1000000
namespace LK
open PySem PySem.Spec PyProof.Rows L2 DL
local macro_rules | `(tactic| push_cast [$xs,*]) => `(tactic| repeat (first
  | with_reducible refine hold_i ?_
  | simp only [q_sp, q_st_c, q_st_n, q_st_0, q_seq, q_next, q_drop, q_ret, q_retN, q_ifS, q_break, q_cont, q_asg, q_par, q_name, q_gnil, q_gcons, q_gtup, q_for, q_var0, q_varS, q_c, q_nil, q_cons, q_tup, q_lst, q_newF, q_newT, q_op, q_test,
    q_and, q_or, q_not, q_andV, q_orV, q_notV, q_if, q_call, q_callK, q_cb, q_bm, q_bm0, q_frz, q_frzC, q_neg, q_sub, q_subC, q_lc, q_lc2, q_dc, q_yes, q_wipe0, q_wipeS, q_sl, q_noPart, q_part, q_cutS, q_cutT, q_cutL, q_cutC, q_rvC, q_rvL,
    q_lvC, q_lvL, q_clC, q_sqT, q_sqL, q_sqC, q_addI, q_addS, q_addT, q_addL, q_subI, q_mulI, q_divI, q_modI, q_powI, q_cmpI, q_eqI, q_neI, q_eqStr, q_isN, q_notN, q_ixT, q_ixL, q_ixC, q_ixS, q_at0, q_at1, q_at2, q_at3, q_at4, q_at5, q_at6, q_at7, q_at8, q_at9,
    q_len, q_lenT, q_lenL, q_lenC, q_lenS, q_sum, q_sumA, q_intI, q_intS, q_str, q_abs, q_max, q_min, q_list, q_tuple, q_isi, q_tyN, q_tyB, q_tyI, q_tyS, q_tyT, q_tyL, q_tyC, q_append, q_extend, q_rng1, q_sqi, u_isN, u_isB, u_isI, u_isS, u_isT, u_isL, u_isR, u_isD, u_isO, u_isC, q_frIx0, q_frIx1, q_frTup, q_frTy, q_frLen, q_raise0, q_raiseF, q_isi2, q_make, q_fld, q_setF, q_prop, q_meth, q_callO, q_inD, q_dget, q_inS, q_revS, q_revX, q_enumS, q_enum, q_zip, q_rev, q_rng2, q_rng3, q_insert, q_reverse, q_join, q_isTyS, q_isTyL, q_cntB, q_isTyC, q_isE, q_xf, q_ones, q_callE, q_ovO, q_ovC, q_dvD, q_keyS, q_keyI, q_den, kb_NoneType_bool, kb_NoneType_int, kb_NoneType_str, kb_NoneType_tuple, kb_NoneType_list, kb_NoneType_dict, kb_bool_bool, kb_bool_int, kb_bool_str, kb_bool_tuple, kb_bool_list, kb_bool_dict, kb_int_bool, kb_int_int, kb_int_str, kb_int_tuple, kb_int_list, kb_int_dict, kb_str_bool, kb_str_int, kb_str_str, kb_str_tuple, kb_str_list, kb_str_dict, kb_tuple_bool, kb_tuple_int, kb_tuple_str, kb_tuple_tuple, kb_tuple_list, kb_tuple_dict, kb_list_bool, kb_list_int, kb_list_str, kb_list_tuple, kb_list_list, kb_list_dict, kb_dict_bool, kb_dict_int, kb_dict_str, kb_dict_tuple, kb_dict_list, kb_dict_dict, u_cast, q_ixN0, q_ixN1, q_ixN2, q_ixN3, q_ixN4, mput_mput, Option.some.injEq, Dt.lst.injEq, Dt.cel.injEq, Prod.mk.injEq, lk_pl0, lk_pl1, lk_pl2, lk_pl3,  Dt.obj.injEq,  Dt.int.injEq, exists_eq_left', exists_eq_left, exists_and_left, u_mapC, u_mapE,  not_true_eq_false, not_false_eq_true, eq_self, u_size, Nat.reduceLeDiff, Nat.reduceLT, 
    u_set0, u_setS, u_lenC, u_lenN, List.append_nil, u_nilA, u_consA, u_mapS, u_mapN, u_bindS, u_bindN, mput_same,
    true_and, and_true, decide_eq_true_eq, Bool.not_eq_true', decide_eq_false_iff_not, u_notT, u_notF, if_true, if_false, ite_true, ite_false, Bool.false_eq_true, reduceCtorEq, reduceIte, Nat.reduceAdd, $xs,*]))
local macro_rules | `(tactic| push_cast only [$xs,*]) => `(tactic| (try with_reducible refine hold_i ?_); (simp only [q_sp, q_st_c, q_st_n, q_st_0, q_seq, q_next, q_drop, q_ret, q_retN, q_ifS, q_break, q_cont, q_asg, q_par, q_name, q_gnil, q_gcons, q_gtup, q_for, q_var0, q_varS, q_c, q_nil, q_cons, q_tup, q_lst, q_newF, q_newT, q_op, q_test,
    q_and, q_or, q_not, q_andV, q_orV, q_notV, q_if, q_call, q_callK, q_cb, q_bm, q_bm0, q_frz, q_frzC, q_neg, q_sub, q_subC, q_lc, q_lc2, q_dc, q_yes, q_wipe0, q_wipeS, q_sl, q_noPart, q_part, q_cutS, q_cutT, q_cutL, q_cutC, q_rvC, q_rvL,
    q_lvC, q_lvL, q_clC, q_sqT, q_sqL, q_sqC, q_addI, q_addS, q_addT, q_addL, q_subI, q_mulI, q_divI, q_modI, q_powI, q_cmpI, q_eqI, q_neI, q_eqStr, q_isN, q_notN, q_ixT, q_ixL, q_ixC, q_ixS, q_at0, q_at1, q_at2, q_at3, q_at4, q_at5, q_at6, q_at7, q_at8, q_at9,
    q_len, q_lenT, q_lenL, q_lenC, q_lenS, q_sum, q_sumA, q_intI, q_intS, q_str, q_abs, q_max, q_min, q_list, q_tuple, q_isi, q_tyN, q_tyB, q_tyI, q_tyS, q_tyT, q_tyL, q_tyC, q_append, q_extend, q_rng1, q_sqi, u_isN, u_isB, u_isI, u_isS, u_isT, u_isL, u_isR, u_isD, u_isO, u_isC, q_frIx0, q_frIx1, q_frTup, q_frTy, q_frLen, q_raise0, q_raiseF, q_isi2, q_make, q_fld, q_setF, q_prop, q_meth, q_callO, q_inD, q_dget, q_inS, q_revS, q_revX, q_enumS, q_enum, q_zip, q_rev, q_rng2, q_rng3, q_insert, q_reverse, q_join, q_isTyS, q_isTyL, q_cntB, q_isTyC, q_isE, q_xf, q_ones, q_callE, q_ovO, q_ovC, q_dvD, q_keyS, q_keyI, q_den, kb_NoneType_bool, kb_NoneType_int, kb_NoneType_str, kb_NoneType_tuple, kb_NoneType_list, kb_NoneType_dict, kb_bool_bool, kb_bool_int, kb_bool_str, kb_bool_tuple, kb_bool_list, kb_bool_dict, kb_int_bool, kb_int_int, kb_int_str, kb_int_tuple, kb_int_list, kb_int_dict, kb_str_bool, kb_str_int, kb_str_str, kb_str_tuple, kb_str_list, kb_str_dict, kb_tuple_bool, kb_tuple_int, kb_tuple_str, kb_tuple_tuple, kb_tuple_list, kb_tuple_dict, kb_list_bool, kb_list_int, kb_list_str, kb_list_tuple, kb_list_list, kb_list_dict, kb_dict_bool, kb_dict_int, kb_dict_str, kb_dict_tuple, kb_dict_list, kb_dict_dict, u_cast, q_ixN0, q_ixN1, q_ixN2, q_ixN3, q_ixN4, mput_mput, Option.some.injEq, Dt.lst.injEq, Dt.cel.injEq, Prod.mk.injEq, lk_pl0, lk_pl1, lk_pl2, lk_pl3,  Dt.obj.injEq,  Dt.int.injEq, exists_eq_left', exists_eq_left, exists_and_left, u_mapC, u_mapE,  not_true_eq_false, not_false_eq_true, eq_self, u_size, Nat.reduceLeDiff, Nat.reduceLT, 
    u_set0, u_setS, u_lenC, u_lenN, List.append_nil, u_nilA, u_consA, u_mapS, u_mapN, u_bindS, u_bindN, mput_same,
    true_and, and_true, decide_eq_true_eq, Bool.not_eq_true', decide_eq_false_iff_not, u_notT, u_notF, if_true, if_false, ite_true, ite_false, Bool.false_eq_true, reduceCtorEq, reduceIte, Nat.reduceAdd, $xs,*]))
section
variable {M : Mm} {Q : DQ} {X : DX}
theorem p_classes_BadCount {a : Addr} {fs : List (Str × Dt)} (h : Q (.int 1) M) : f_law_classes "BadCount" a fs [.cel a] M Q X := by
  push_cast [f_law_classes, b_law_classes, dk_BadCount_BadNumber, dk_BadCount_DivisionByZero, dk_BadCount_BadCount, dk_BadCount_BadSize, dk_BadCount_BadName, dk_BadCount_BadText, dk_BadCount_BadRow, dk_BadCount_BadShare, dk_BadCount_BadWeight, dk_BadCount_Mismatch, dk_BadCount_NoHelper, dk_BadCount_NotExact, dk_BadCount_Lacking, dk_BadCount_GameOver, dk_BadCount_NothingToTakeBack, dk_BadCount_UnknownName, dk_BadCount_TakenName, dk_BadCount_WrongKind, dk_BadCount_InUse]
  refine ⟨⟨_, rfl⟩, [false, false, true, false, false, false, false, false, false, false, false, false, false, false, false, false, false, false, false], rfl, ?_⟩
  exact h
theorem p_classes_BadRow {a : Addr} {fs : List (Str × Dt)} (h : Q (.int 1) M) : f_law_classes "BadRow" a fs [.cel a] M Q X := by
  push_cast [f_law_classes, b_law_classes, dk_BadRow_BadNumber, dk_BadRow_DivisionByZero, dk_BadRow_BadCount, dk_BadRow_BadSize, dk_BadRow_BadName, dk_BadRow_BadText, dk_BadRow_BadRow, dk_BadRow_BadShare, dk_BadRow_BadWeight, dk_BadRow_Mismatch, dk_BadRow_NoHelper, dk_BadRow_NotExact, dk_BadRow_Lacking, dk_BadRow_GameOver, dk_BadRow_NothingToTakeBack, dk_BadRow_UnknownName, dk_BadRow_TakenName, dk_BadRow_WrongKind, dk_BadRow_InUse]
  refine ⟨⟨_, rfl⟩, [false, false, false, false, false, false, true, false, false, false, false, false, false, false, false, false, false, false, false], rfl, ?_⟩
  exact h
theorem p_classes_Mismatch {a : Addr} {fs : List (Str × Dt)} (h : Q (.int 1) M) : f_law_classes "Mismatch" a fs [.cel a] M Q X := by
  push_cast [f_law_classes, b_law_classes, dk_Mismatch_BadNumber, dk_Mismatch_DivisionByZero, dk_Mismatch_BadCount, dk_Mismatch_BadSize, dk_Mismatch_BadName, dk_Mismatch_BadText, dk_Mismatch_BadRow, dk_Mismatch_BadShare, dk_Mismatch_BadWeight, dk_Mismatch_Mismatch, dk_Mismatch_NoHelper, dk_Mismatch_NotExact, dk_Mismatch_Lacking, dk_Mismatch_GameOver, dk_Mismatch_NothingToTakeBack, dk_Mismatch_UnknownName, dk_Mismatch_TakenName, dk_Mismatch_WrongKind, dk_Mismatch_InUse]
  refine ⟨⟨_, rfl⟩, [false, false, false, false, false, false, false, false, false, true, false, false, false, false, false, false, false, false, false], rfl, ?_⟩
  exact h
theorem eq_one (h : Q (.bl true) M) : dEqR (.tup [.str "Mismatch"]) (.tup [.str "Mismatch"]) M Q := by
  refine .inr ⟨by decide +kernel, by decide +kernel, ?_⟩
  have e : PyData.eqv (.tuple [.str "Mismatch"]) (.tuple [.str "Mismatch"]) = true := by simp [PyData.eqv, PyData.eqvAll]
  rw [e]; exact h
theorem den_bc {a fa : Addr} {lo hi : Int} {bad : Dt} (hb : BadC lo hi bad) (h : Q (.bl true) M) : bs_law_denied a "BadCount" [("high", .int hi), ("low", .int lo), ("found", bad)] { nx := fun _ _ => False, rt := Q } [some (.cel fa), some (.tup [.str "BadCount", bad, .int lo, .int hi]), some (.cel a)] M := by
  push_cast [bs_law_denied]
  refine up_of (p_classes_BadCount ?_)
  push_cast [dk_BadCount_BadNumber, dk_BadCount_DivisionByZero, dk_BadCount_BadCount, dk_BadCount_BadSize, dk_BadCount_BadName, dk_BadCount_BadText, dk_BadCount_BadRow, dk_BadCount_BadShare, dk_BadCount_BadWeight, dk_BadCount_Mismatch, dk_BadCount_NoHelper, dk_BadCount_NotExact, dk_BadCount_Lacking, dk_BadCount_GameOver, dk_BadCount_NothingToTakeBack, dk_BadCount_UnknownName, dk_BadCount_TakenName, dk_BadCount_WrongKind, dk_BadCount_InUse, lk_bc0, lk_bc1, lk_bc2, lk_br]
  refine up_of (p_same 5 ?_ (.inl rfl) ?_)
  · refine ⟨by simp only [List.length_cons, List.length_nil]; omega, fun x hx => ?_⟩
    simp only [List.mem_cons, List.not_mem_nil, or_false] at hx
    rcases hx with rfl | rfl | rfl | rfl
    · trivial
    · exact sm_bad hb
    · trivial
    · trivial
  · exact h
theorem den_br {a fa : Addr} {z : Str} (h : Q (.bl true) M) : bs_law_denied a "BadRow" [("found", .str z)] { nx := fun _ _ => False, rt := Q } [some (.cel fa), some (.tup [.str "BadRow", .str z]), some (.cel a)] M := by
  push_cast [bs_law_denied]
  refine up_of (p_classes_BadRow ?_)
  push_cast [dk_BadRow_BadNumber, dk_BadRow_DivisionByZero, dk_BadRow_BadCount, dk_BadRow_BadSize, dk_BadRow_BadName, dk_BadRow_BadText, dk_BadRow_BadRow, dk_BadRow_BadShare, dk_BadRow_BadWeight, dk_BadRow_Mismatch, dk_BadRow_NoHelper, dk_BadRow_NotExact, dk_BadRow_Lacking, dk_BadRow_GameOver, dk_BadRow_NothingToTakeBack, dk_BadRow_UnknownName, dk_BadRow_TakenName, dk_BadRow_WrongKind, dk_BadRow_InUse, lk_bc0, lk_bc1, lk_bc2, lk_br]
  refine up_of (p_same 5 ?_ (.inl rfl) ?_)
  · refine ⟨by simp only [List.length_cons, List.length_nil]; omega, fun x hx => ?_⟩
    simp only [List.mem_cons, List.not_mem_nil, or_false] at hx
    rcases hx with rfl | rfl <;> trivial
  · exact h
theorem den_mm {a fa : Addr} (h : Q (.bl true) M) : bs_law_denied a "Mismatch" [] { nx := fun _ _ => False, rt := Q } [some (.cel fa), some (.tup [.str "Mismatch"]), some (.cel a)] M := by
  push_cast [bs_law_denied]
  refine up_of (p_classes_Mismatch ?_)
  push_cast [dk_Mismatch_BadNumber, dk_Mismatch_DivisionByZero, dk_Mismatch_BadCount, dk_Mismatch_BadSize, dk_Mismatch_BadName, dk_Mismatch_BadText, dk_Mismatch_BadRow, dk_Mismatch_BadShare, dk_Mismatch_BadWeight, dk_Mismatch_Mismatch, dk_Mismatch_NoHelper, dk_Mismatch_NotExact, dk_Mismatch_Lacking, dk_Mismatch_GameOver, dk_Mismatch_NothingToTakeBack, dk_Mismatch_UnknownName, dk_Mismatch_TakenName, dk_Mismatch_WrongKind, dk_Mismatch_InUse, lk_bc0, lk_bc1, lk_bc2, lk_br]
  exact eq_one h
end

end LK
set_option Elab.async false
set_option linter.all false
set_option maxRecDepth 100000
set_option maxHeartbeats 1000000
namespace LK
open PySem PySem.Spec PyProof.Rows L2 DL
local macro_rules | `(tactic| push_cast [$xs,*]) => `(tactic| repeat (first
  | with_reducible refine hold_i ?_
  | simp only [q_sp, q_st_c, q_st_n, q_st_0, q_seq, q_next, q_drop, q_ret, q_retN, q_ifS, q_break, q_cont, q_asg, q_par, q_name, q_gnil, q_gcons, q_gtup, q_for, q_var0, q_varS, q_c, q_nil, q_cons, q_tup, q_lst, q_newF, q_newT, q_op, q_test,
    q_and, q_or, q_not, q_andV, q_orV, q_notV, q_if, q_call, q_callK, q_cb, q_bm, q_bm0, q_frz, q_frzC, q_neg, q_sub, q_subC, q_lc, q_lc2, q_dc, q_yes, q_wipe0, q_wipeS, q_sl, q_noPart, q_part, q_cutS, q_cutT, q_cutL, q_cutC, q_rvC, q_rvL,
    q_lvC, q_lvL, q_clC, q_sqT, q_sqL, q_sqC, q_addI, q_addS, q_addT, q_addL, q_subI, q_mulI, q_divI, q_modI, q_powI, q_cmpI, q_eqI, q_neI, q_eqStr, q_isN, q_notN, q_ixT, q_ixL, q_ixC, q_ixS, q_at0, q_at1, q_at2, q_at3, q_at4, q_at5, q_at6, q_at7, q_at8, q_at9,
    q_len, q_lenT, q_lenL, q_lenC, q_lenS, q_sum, q_sumA, q_intI, q_intS, q_str, q_abs, q_max, q_min, q_list, q_tuple, q_isi, q_tyN, q_tyB, q_tyI, q_tyS, q_tyT, q_tyL, q_tyC, q_append, q_extend, q_rng1, q_sqi, u_isN, u_isB, u_isI, u_isS, u_isT, u_isL, u_isR, u_isD, u_isO, u_isC, q_frIx0, q_frIx1, q_frTup, q_frTy, q_frLen, q_raise0, q_raiseF, q_isi2, q_make, q_fld, q_setF, q_prop, q_meth, q_callO, q_inD, q_dget, q_inS, q_revS, q_revX, q_enumS, q_enum, q_zip, q_rev, q_rng2, q_rng3, q_insert, q_reverse, q_join, q_isTyS, q_isTyL, q_cntB, q_isTyC, q_isE, q_xf, q_ones, q_callE, q_ovO, q_ovC, q_dvD, q_keyS, q_keyI, q_den, kb_NoneType_bool, kb_NoneType_int, kb_NoneType_str, kb_NoneType_tuple, kb_NoneType_list, kb_NoneType_dict, kb_bool_bool, kb_bool_int, kb_bool_str, kb_bool_tuple, kb_bool_list, kb_bool_dict, kb_int_bool, kb_int_int, kb_int_str, kb_int_tuple, kb_int_list, kb_int_dict, kb_str_bool, kb_str_int, kb_str_str, kb_str_tuple, kb_str_list, kb_str_dict, kb_tuple_bool, kb_tuple_int, kb_tuple_str, kb_tuple_tuple, kb_tuple_list, kb_tuple_dict, kb_list_bool, kb_list_int, kb_list_str, kb_list_tuple, kb_list_list, kb_list_dict, kb_dict_bool, kb_dict_int, kb_dict_str, kb_dict_tuple, kb_dict_list, kb_dict_dict, u_cast, q_ixN0, q_ixN1, q_ixN2, q_ixN3, q_ixN4, mput_mput, Option.some.injEq, Dt.lst.injEq, Dt.cel.injEq, Prod.mk.injEq, lk_pl0, lk_pl1, lk_pl2, lk_pl3,  Dt.obj.injEq,  Dt.int.injEq, exists_eq_left', exists_eq_left, exists_and_left, u_mapC, u_mapE,  not_true_eq_false, not_false_eq_true, eq_self, u_size, Nat.reduceLeDiff, Nat.reduceLT, 
    u_set0, u_setS, u_lenC, u_lenN, List.append_nil, u_nilA, u_consA, u_mapS, u_mapN, u_bindS, u_bindN, mput_same,
    true_and, and_true, decide_eq_true_eq, Bool.not_eq_true', decide_eq_false_iff_not, u_notT, u_notF, if_true, if_false, ite_true, ite_false, Bool.false_eq_true, reduceCtorEq, reduceIte, Nat.reduceAdd, $xs,*]))
local macro_rules | `(tactic| push_cast only [$xs,*]) => `(tactic| (try with_reducible refine hold_i ?_); (simp only [q_sp, q_st_c, q_st_n, q_st_0, q_seq, q_next, q_drop, q_ret, q_retN, q_ifS, q_break, q_cont, q_asg, q_par, q_name, q_gnil, q_gcons, q_gtup, q_for, q_var0, q_varS, q_c, q_nil, q_cons, q_tup, q_lst, q_newF, q_newT, q_op, q_test,
    q_and, q_or, q_not, q_andV, q_orV, q_notV, q_if, q_call, q_callK, q_cb, q_bm, q_bm0, q_frz, q_frzC, q_neg, q_sub, q_subC, q_lc, q_lc2, q_dc, q_yes, q_wipe0, q_wipeS, q_sl, q_noPart, q_part, q_cutS, q_cutT, q_cutL, q_cutC, q_rvC, q_rvL,
    q_lvC, q_lvL, q_clC, q_sqT, q_sqL, q_sqC, q_addI, q_addS, q_addT, q_addL, q_subI, q_mulI, q_divI, q_modI, q_powI, q_cmpI, q_eqI, q_neI, q_eqStr, q_isN, q_notN, q_ixT, q_ixL, q_ixC, q_ixS, q_at0, q_at1, q_at2, q_at3, q_at4, q_at5, q_at6, q_at7, q_at8, q_at9,
    q_len, q_lenT, q_lenL, q_lenC, q_lenS, q_sum, q_sumA, q_intI, q_intS, q_str, q_abs, q_max, q_min, q_list, q_tuple, q_isi, q_tyN, q_tyB, q_tyI, q_tyS, q_tyT, q_tyL, q_tyC, q_append, q_extend, q_rng1, q_sqi, u_isN, u_isB, u_isI, u_isS, u_isT, u_isL, u_isR, u_isD, u_isO, u_isC, q_frIx0, q_frIx1, q_frTup, q_frTy, q_frLen, q_raise0, q_raiseF, q_isi2, q_make, q_fld, q_setF, q_prop, q_meth, q_callO, q_inD, q_dget, q_inS, q_revS, q_revX, q_enumS, q_enum, q_zip, q_rev, q_rng2, q_rng3, q_insert, q_reverse, q_join, q_isTyS, q_isTyL, q_cntB, q_isTyC, q_isE, q_xf, q_ones, q_callE, q_ovO, q_ovC, q_dvD, q_keyS, q_keyI, q_den, kb_NoneType_bool, kb_NoneType_int, kb_NoneType_str, kb_NoneType_tuple, kb_NoneType_list, kb_NoneType_dict, kb_bool_bool, kb_bool_int, kb_bool_str, kb_bool_tuple, kb_bool_list, kb_bool_dict, kb_int_bool, kb_int_int, kb_int_str, kb_int_tuple, kb_int_list, kb_int_dict, kb_str_bool, kb_str_int, kb_str_str, kb_str_tuple, kb_str_list, kb_str_dict, kb_tuple_bool, kb_tuple_int, kb_tuple_str, kb_tuple_tuple, kb_tuple_list, kb_tuple_dict, kb_list_bool, kb_list_int, kb_list_str, kb_list_tuple, kb_list_list, kb_list_dict, kb_dict_bool, kb_dict_int, kb_dict_str, kb_dict_tuple, kb_dict_list, kb_dict_dict, u_cast, q_ixN0, q_ixN1, q_ixN2, q_ixN3, q_ixN4, mput_mput, Option.some.injEq, Dt.lst.injEq, Dt.cel.injEq, Prod.mk.injEq, lk_pl0, lk_pl1, lk_pl2, lk_pl3,  Dt.obj.injEq,  Dt.int.injEq, exists_eq_left', exists_eq_left, exists_and_left, u_mapC, u_mapE,  not_true_eq_false, not_false_eq_true, eq_self, u_size, Nat.reduceLeDiff, Nat.reduceLT, 
    u_set0, u_setS, u_lenC, u_lenN, List.append_nil, u_nilA, u_consA, u_mapS, u_mapN, u_bindS, u_bindN, mput_same,
    true_and, and_true, decide_eq_true_eq, Bool.not_eq_true', decide_eq_false_iff_not, u_notT, u_notF, if_true, if_false, ite_true, ite_false, Bool.false_eq_true, reduceCtorEq, reduceIte, Nat.reduceAdd, $xs,*]))
section
variable {M : Mm} {Q : DQ} {X : DX}
theorem p_dealt {a : Addr} {w : Nat} (hM : Ok a M) (hw : W5 w) (h : ∀ qs M', Dr a M M' → Shr 6 w qs → Q (.lst (frs qs)) M') : f_law_dealt [.cel a, .int w] M Q X := by
  have w1 := hw.1
  have w5 := hw.2
  push_cast [f_law_dealt, b_law_dealt]
  refine up_of (p_take hM (by decide) fun kind M1 hd1 hk0 hk1 => ?_)
  have hk1 := hk1 (by decide)
  push_cast []
  refine ⟨by omega, by omega, ?_⟩
  rw [Int.toNat_natCast, rngD_map]
  refine lc_rel (α := Nat) (fun _ d => ∃ k : Int, d = .int k ∧ (0 ≤ k ∧ k ≤ 6)) (fun M' => Dr a M M') (fun _ _ => trivial) (fun i M' N hM' hN => ?_) (List.range w) [] M1 hd1 (by rw [u_size, List.length_range, List.length_nil]; omega) fun ys M3 hd3 hys => ?_
  · push_cast []
    refine up_of (p_take hM'.ok (by decide) fun k M'' hd h0 h1 => ?_)
    exact hN _ _ (hM'.trans hd) ⟨k, rfl, h0, by have := h1 (by decide); omega⟩
  obtain ⟨ks, rfl, hkl, hks⟩ := rel2_ints hys
  rw [List.length_range] at hkl
  rw [List.nil_append]
  push_cast []
  intro p hp
  have hpa := hd3.ok.ne hp
  -- behind the choice of weights: a new list; all weights 0 only where one is added
  refine q_mid (fun ds' M' => Dr a M M' ∧ ∃ (p : Addr) (ks : List Int), p ≠ a ∧ M p = none ∧ M' p = some (.lst (ks.map .int)) ∧ ks.length = w ∧ (∀ k ∈ ks, 0 ≤ k ∧ k ≤ 6) ∧ (kind = 1 → ∀ k ∈ ks, k = 1) ∧ (kind = 0 → ∀ k ∈ ks, k = 0) ∧ ds' = [some (.cel a), some (.int w), some (.int kind), some (.cel p), none, none, none, none]) (fun N hN => ?_) ?_
  · push_cast []
    split
    · refine ⟨by omega, by omega, ?_⟩
      rw [Int.toNat_natCast, rngD_map]
      refine lc_map (α := Nat) (fun _ => .int kind) trivial (fun i N' hN' => ?_) (List.range w) [] (by rw [u_size, List.length_range, List.length_nil]; omega) ?_
      · push_cast []
        exact hN'
      push_cast []
      intro p2 hp2
      have hd4 := hd3.new (d := .lst (ks.map .int)) hp
      have hall : ∀ k ∈ (List.range w).map (fun _ => kind), k = kind := fun k hk => by
        obtain ⟨_, _, rfl⟩ := List.mem_map.mp hk
        rfl
      refine hN _ _ ⟨hd4.new hp2, p2, (List.range w).map fun _ => kind, hd4.ok.ne hp2, hd4.none hp2, ?_, by rw [List.length_map, List.length_range], fun k hk => by rw [hall k hk]; omega, fun e k hk => by rw [hall k hk, e], fun e k hk => by rw [hall k hk, e], rfl⟩
      rw [mput_same, List.map_map]; rfl
    · exact hN _ _ ⟨hd3.new hp, p, ks, hpa, hd3.none hp, mput_same, hkl, hks, fun e => by omega, fun e => by omega, rfl⟩
  rintro ds4 M4 ⟨hd4, p4, ks4, hp4a, hp4, hM4, hl4, hk4, hone, hzero, rfl⟩
  push_cast []
  refine up_of (p_take hd4.ok (by omega) fun at_ M5 hd5 ha0 ha1 => ?_)
  have ha1 := ha1 (by omega)
  obtain ⟨j, rfl⟩ := Int.eq_ofNat_of_zero_le ha0
  have hM5 := hd5.keep hp4a hM4
  have hj : j < ks4.length := by omega
  have e4 := List.getElem?_eq_getElem hj
  have e5 : (ks4.map Dt.int)[j]? = some (.int ks4[j]) := by rw [List.getElem?_map, e4]; rfl
  have e6 : ixN (ks4.map Dt.int).length (j : Int) = some j := ixN_lt (by rw [List.length_map]; exact hj)
  have hk5 := hk4 _ (List.getElem_mem hj)
  have hint : ∀ (b : Bool) (Q' : DQ), Q' (.int (if b = true then 1 else 0)) M5 → dInt [.bl b] M5 Q' := fun b Q' h => h
  push_cast [hM5, atI_of e5]
  refine hint _ _ ?_
  generalize hdl : (if (!decide (kind = 1)) = true then (1 : Int) else 0) = dl
  have hdl2 : (kind = 1 ∧ dl = 0) ∨ (kind ≠ 1 ∧ dl = 1) := by
    by_cases e : kind = 1
    · left; exact ⟨e, by rw [← hdl]; simp [e]⟩
    · right; exact ⟨e, by rw [← hdl]; simp [e]⟩
  push_cast [hM5, e6]
  have hd6 : Dr a M (mput M5 p4 (.lst ((ks4.map Dt.int).set j (.int (ks4[j] + dl))))) := (hd4.trans hd5).wr hp4a hp4
  have es : (ks4.map Dt.int).set j (.int (ks4[j] + dl)) = (ks4.set j (ks4[j] + dl)).map Dt.int := by rw [List.map_set]
  rw [es] at hd6 ⊢
  have hsum := sum_set ks4 j ks4[j] (ks4[j] + dl) e4
  have hle := sum_le ks4 hk4
  have hpos : 0 < (ks4.set j (ks4[j] + dl)).sum := by
    rcases hdl2 with ⟨e1, e2⟩ | ⟨e1, e2⟩
    · have h1 : ks4.sum = ks4.length := by
        have key : ∀ l : List Int, (∀ k ∈ l, k = 1) → l.sum = l.length := by
          intro l
          induction l with
          | nil => intro _; rfl
          | cons x l ih =>
            intro hx
            rw [List.sum_cons, ih fun k hk => hx k (List.mem_cons_of_mem _ hk), hx x List.mem_cons_self, List.length_cons]
            omega
        exact key ks4 (hone e1)
      omega
    · omega
  have hle7 : ∀ k ∈ ks4.set j (ks4[j] + dl), 0 ≤ k ∧ k ≤ 7 := fun k hk => by
    rcases List.mem_or_eq_of_mem_set hk with hk | hk
    · have := hk4 k hk; omega
    · subst hk; omega
  have hlen : (ks4.set j (ks4[j] + dl)).length = w := by rw [List.length_set]; exact hl4
  generalize ks4.set j (ks4[j] + dl) = ks5 at *
  push_cast [intsD_map]
  have hb := sum_le ks5 hle7
  rw [hlen] at hb
  refine lc_map_mem (α := Int) (fun k => fr (mkRat k ks5.sum.toNat)) (by rw [mput_same]) ks5 [] (fun k N hk hN => ?_) (by rw [u_size, List.length_nil]; omega) ?_
  · push_cast []
    exact up_of (p_low (n := 6) hpos (by omega) (by omega) hN)
  · push_cast []
    have := h _ _ hd6 (shr_weights7 hlen hle7 w5 hpos)
    unfold DL.frs at this
    rw [List.map_map] at this
    exact this
end

end LK
set_option Elab.async false
set_option linter.all false
set_option maxRecDepth 100000
set_option maxHeartbeats 1000000
namespace LK
open PySem PySem.Spec PyProof.Rows L2 DL
local macro_rules | `(tactic| push_cast [$xs,*]) => `(tactic| repeat (first
  | with_reducible refine hold_i ?_
  | simp only [q_sp, q_st_c, q_st_n, q_st_0, q_seq, q_next, q_drop, q_ret, q_retN, q_ifS, q_break, q_cont, q_asg, q_par, q_name, q_gnil, q_gcons, q_gtup, q_for, q_var0, q_varS, q_c, q_nil, q_cons, q_tup, q_lst, q_newF, q_newT, q_op, q_test,
    q_and, q_or, q_not, q_andV, q_orV, q_notV, q_if, q_call, q_callK, q_cb, q_bm, q_bm0, q_frz, q_frzC, q_neg, q_sub, q_subC, q_lc, q_lc2, q_dc, q_yes, q_wipe0, q_wipeS, q_sl, q_noPart, q_part, q_cutS, q_cutT, q_cutL, q_cutC, q_rvC, q_rvL,
    q_lvC, q_lvL, q_clC, q_sqT, q_sqL, q_sqC, q_addI, q_addS, q_addT, q_addL, q_subI, q_mulI, q_divI, q_modI, q_powI, q_cmpI, q_eqI, q_neI, q_eqStr, q_isN, q_notN, q_ixT, q_ixL, q_ixC, q_ixS, q_at0, q_at1, q_at2, q_at3, q_at4, q_at5, q_at6, q_at7, q_at8, q_at9,
    q_len, q_lenT, q_lenL, q_lenC, q_lenS, q_sum, q_sumA, q_intI, q_intS, q_str, q_abs, q_max, q_min, q_list, q_tuple, q_isi, q_tyN, q_tyB, q_tyI, q_tyS, q_tyT, q_tyL, q_tyC, q_append, q_extend, q_rng1, q_sqi, u_isN, u_isB, u_isI, u_isS, u_isT, u_isL, u_isR, u_isD, u_isO, u_isC, q_frIx0, q_frIx1, q_frTup, q_frTy, q_frLen, q_raise0, q_raiseF, q_isi2, q_make, q_fld, q_setF, q_prop, q_meth, q_callO, q_inD, q_dget, q_inS, q_revS, q_revX, q_enumS, q_enum, q_zip, q_rev, q_rng2, q_rng3, q_insert, q_reverse, q_join, q_isTyS, q_isTyL, q_cntB, q_isTyC, q_isE, q_xf, q_ones, q_callE, q_ovO, q_ovC, q_dvD, q_keyS, q_keyI, q_den, kb_NoneType_bool, kb_NoneType_int, kb_NoneType_str, kb_NoneType_tuple, kb_NoneType_list, kb_NoneType_dict, kb_bool_bool, kb_bool_int, kb_bool_str, kb_bool_tuple, kb_bool_list, kb_bool_dict, kb_int_bool, kb_int_int, kb_int_str, kb_int_tuple, kb_int_list, kb_int_dict, kb_str_bool, kb_str_int, kb_str_str, kb_str_tuple, kb_str_list, kb_str_dict, kb_tuple_bool, kb_tuple_int, kb_tuple_str, kb_tuple_tuple, kb_tuple_list, kb_tuple_dict, kb_list_bool, kb_list_int, kb_list_str, kb_list_tuple, kb_list_list, kb_list_dict, kb_dict_bool, kb_dict_int, kb_dict_str, kb_dict_tuple, kb_dict_list, kb_dict_dict, u_cast, q_ixN0, q_ixN1, q_ixN2, q_ixN3, q_ixN4, mput_mput, Option.some.injEq, Dt.lst.injEq, Dt.cel.injEq, Prod.mk.injEq, lk_pl0, lk_pl1, lk_pl2, lk_pl3,  Dt.obj.injEq,  Dt.int.injEq, exists_eq_left', exists_eq_left, exists_and_left, u_mapC, u_mapE,  not_true_eq_false, not_false_eq_true, eq_self, u_size, Nat.reduceLeDiff, Nat.reduceLT, 
    u_set0, u_setS, u_lenC, u_lenN, List.append_nil, u_nilA, u_consA, u_mapS, u_mapN, u_bindS, u_bindN, mput_same,
    true_and, and_true, decide_eq_true_eq, Bool.not_eq_true', decide_eq_false_iff_not, u_notT, u_notF, if_true, if_false, ite_true, ite_false, Bool.false_eq_true, reduceCtorEq, reduceIte, Nat.reduceAdd, $xs,*]))
local macro_rules | `(tactic| push_cast only [$xs,*]) => `(tactic| (try with_reducible refine hold_i ?_); (simp only [q_sp, q_st_c, q_st_n, q_st_0, q_seq, q_next, q_drop, q_ret, q_retN, q_ifS, q_break, q_cont, q_asg, q_par, q_name, q_gnil, q_gcons, q_gtup, q_for, q_var0, q_varS, q_c, q_nil, q_cons, q_tup, q_lst, q_newF, q_newT, q_op, q_test,
    q_and, q_or, q_not, q_andV, q_orV, q_notV, q_if, q_call, q_callK, q_cb, q_bm, q_bm0, q_frz, q_frzC, q_neg, q_sub, q_subC, q_lc, q_lc2, q_dc, q_yes, q_wipe0, q_wipeS, q_sl, q_noPart, q_part, q_cutS, q_cutT, q_cutL, q_cutC, q_rvC, q_rvL,
    q_lvC, q_lvL, q_clC, q_sqT, q_sqL, q_sqC, q_addI, q_addS, q_addT, q_addL, q_subI, q_mulI, q_divI, q_modI, q_powI, q_cmpI, q_eqI, q_neI, q_eqStr, q_isN, q_notN, q_ixT, q_ixL, q_ixC, q_ixS, q_at0, q_at1, q_at2, q_at3, q_at4, q_at5, q_at6, q_at7, q_at8, q_at9,
    q_len, q_lenT, q_lenL, q_lenC, q_lenS, q_sum, q_sumA, q_intI, q_intS, q_str, q_abs, q_max, q_min, q_list, q_tuple, q_isi, q_tyN, q_tyB, q_tyI, q_tyS, q_tyT, q_tyL, q_tyC, q_append, q_extend, q_rng1, q_sqi, u_isN, u_isB, u_isI, u_isS, u_isT, u_isL, u_isR, u_isD, u_isO, u_isC, q_frIx0, q_frIx1, q_frTup, q_frTy, q_frLen, q_raise0, q_raiseF, q_isi2, q_make, q_fld, q_setF, q_prop, q_meth, q_callO, q_inD, q_dget, q_inS, q_revS, q_revX, q_enumS, q_enum, q_zip, q_rev, q_rng2, q_rng3, q_insert, q_reverse, q_join, q_isTyS, q_isTyL, q_cntB, q_isTyC, q_isE, q_xf, q_ones, q_callE, q_ovO, q_ovC, q_dvD, q_keyS, q_keyI, q_den, kb_NoneType_bool, kb_NoneType_int, kb_NoneType_str, kb_NoneType_tuple, kb_NoneType_list, kb_NoneType_dict, kb_bool_bool, kb_bool_int, kb_bool_str, kb_bool_tuple, kb_bool_list, kb_bool_dict, kb_int_bool, kb_int_int, kb_int_str, kb_int_tuple, kb_int_list, kb_int_dict, kb_str_bool, kb_str_int, kb_str_str, kb_str_tuple, kb_str_list, kb_str_dict, kb_tuple_bool, kb_tuple_int, kb_tuple_str, kb_tuple_tuple, kb_tuple_list, kb_tuple_dict, kb_list_bool, kb_list_int, kb_list_str, kb_list_tuple, kb_list_list, kb_list_dict, kb_dict_bool, kb_dict_int, kb_dict_str, kb_dict_tuple, kb_dict_list, kb_dict_dict, u_cast, q_ixN0, q_ixN1, q_ixN2, q_ixN3, q_ixN4, mput_mput, Option.some.injEq, Dt.lst.injEq, Dt.cel.injEq, Prod.mk.injEq, lk_pl0, lk_pl1, lk_pl2, lk_pl3,  Dt.obj.injEq,  Dt.int.injEq, exists_eq_left', exists_eq_left, exists_and_left, u_mapC, u_mapE,  not_true_eq_false, not_false_eq_true, eq_self, u_size, Nat.reduceLeDiff, Nat.reduceLT, 
    u_set0, u_setS, u_lenC, u_lenN, List.append_nil, u_nilA, u_consA, u_mapS, u_mapN, u_bindS, u_bindN, mput_same,
    true_and, and_true, decide_eq_true_eq, Bool.not_eq_true', decide_eq_false_iff_not, u_notT, u_notF, if_true, if_false, ite_true, ite_false, Bool.false_eq_true, reduceCtorEq, reduceIte, Nat.reduceAdd, $xs,*]))
section
variable {M : Mm} {Q : DQ} {X : DX}
/-- what stood stands -/
def Kp (M M' : Mm) : Prop := ∀ b d, M b = some d → M' b = some d
theorem Kp.refl {M : Mm} : Kp M M := fun _ _ h => h
theorem Kp.trans {M M1 M2 : Mm} (h : Kp M M1) (g : Kp M1 M2) : Kp M M2 := fun b d e => g b d (h b d e)
theorem Kp.new {M M' : Mm} {p : Addr} {d : Dt} (h : Kp M M') (hp : M' p = none) : Kp M (mput M' p d) := fun b e he => (mput_ne (ne_new (h b e he) hp)).trans (h b e he)
theorem Kp.wr {M M' : Mm} {p : Addr} {d : Dt} (h : Kp M M') (hp : M p = none) : Kp M (mput M' p d) := fun b e he => (mput_ne (ne_new he hp)).trans (h b e he)
theorem Kp.none {M M' : Mm} {p : Addr} (h : Kp M M') (hp : M' p = none) : M p = none := by
  cases e : M p with
  | none => rfl
  | some d => rw [h p d e] at hp; cases hp
theorem addLC {m : Bool} {a : Addr} {xs ys : List Dt} (ha : M a = some (.lst ys)) (h : xs.length + ys.length ≤ sizeLine ∧ newL m (xs ++ ys) M Q) : dAddR m (.lst xs) (.cel a) M Q := by
  refine .inr (.inr (.inr ?_))
  show (match lview M (.lst xs), lview M (.cel a) with | some xs, some ys => xs.length + ys.length ≤ sizeLine ∧ newL m (xs ++ ys) M Q | _, _ => False)
  rw [lview_cel ha]
  exact h
theorem txs_len {ts : List (List Nat)} : (txs ts).length = ts.length := List.length_map _
theorem p_texts_b {w n : Nat} (hw : W5 w) (hn : n ≤ 8) (h : ∀ p M', Kp M M' → M' p = some (.lst (txs (levT w n))) → Q (.cel p) M') : f_law_texts_b [.int w, .int n] M Q X := by
  have w5 := hw.2
  push_cast [f_law_texts_b, b_law_texts_b]
  intro p0 hp0
  push_cast []
  refine ⟨by omega, by omega, ?_⟩
  rw [Int.toNat_natCast]
  refine for_rng (fun i ds' M' => Kp M M' ∧ ∃ (p : Addr) (z3 z4 z5 z6 : Option Dt), M' p = some (.lst (txs (levT w i))) ∧ ds' = [some (.int w), some (.int n), some (.cel p), z3, z4, z5, z6]) (fun i ds' M' N hi hN => ?_) ?_ _ _ ⟨Kp.refl.new hp0, p0, none, none, none, none, by rw [mput_same, dg_nil]; rfl, rfl⟩
  · rintro ⟨hk, p, z3, z4, z5, z6, hMp, rfl⟩
    have hlen : (levT w (i + 1)).length ≤ 1953125 := by rw [levT_len]; exact pow_w hw (by omega)
    push_cast []
    intro q hq
    have hpq : p ≠ q := ne_new hMp hq
    have hMp' : mput M' q (.lst []) p = some (.lst (txs (levT w i))) := (mput_ne hpq).trans hMp
    push_cast [hMp']
    have hq0 := hk.none hq
    refine for_map (α := List Nat) (fun rest ds' M1 => Kp M M1 ∧ ∃ (pre : List (List Nat)) (z5 z6 : Option Dt), levT w i = pre ++ rest ∧ M1 q = some (.lst (txs (nxtT w pre))) ∧ ds' = [some (.int w), some (.int n), some (.cel p), some (.int i), some (.cel q), z5, z6]) ?_ ?_ (levT w i) _ _ ⟨hk.new hq, [], z5, z6, rfl, mput_same, rfl⟩
    · rintro t rest ds' M1 N1 hN1 ⟨hk1, pre, y5, y6, hpre, hMq, rfl⟩
      refine ⟨trivial, ?_⟩
      push_cast []
      refine ⟨by omega, by omega, ?_⟩
      rw [Int.toNat_natCast]
      refine for_rng (fun k ds' M2 => Kp M M2 ∧ ∃ (z6 : Option Dt), M2 q = some (.lst (txs (nxtT w pre ++ (List.range k).map fun d => t ++ [d]))) ∧ ds' = [some (.int w), some (.int n), some (.cel p), some (.int i), some (.cel q), some (.str (dg t)), z6]) (fun k ds' M2 N2 hk2 hN2 => ?_) ?_ _ _ ⟨hk1, y6, by rw [hMq]; simp, rfl⟩
      · rintro ⟨hkk, z6, hM2, rfl⟩
        have htl : t.length = i := (levT_mem (by rw [hpre]; simp)).1
        have hbound : (nxtT w pre).length + k < 16777216 := by
          have h1 : (nxtT w pre).length ≤ (levT w (i + 1)).length := by
            show _ ≤ (nxtT w (levT w i)).length
            rw [hpre]
            unfold nxtT
            rw [List.flatMap_append, List.length_append]; omega
          omega
        push_cast [hM2]
        refine ⟨⟨_, rfl⟩, small_log (by omega), ?_⟩
        have ed : Str.ofString (toString (k : Int)) = dg [k] := digit_str (by omega)
        rw [ed, dg_app]
        push_cast [dg_len, hM2, txs_len, List.length_append, List.length_map, List.length_range]
        refine ⟨by omega, hbound, hN2 _ _ ⟨hkk.wr hq0, some (.int k), ?_, rfl⟩⟩
        rw [mput_same, List.range_succ, List.map_append, ← List.append_assoc]
        unfold txs
        rw [List.map_append (l₁ := nxtT w pre ++ _)]; rfl
      · rintro ds' M2 ⟨hkk, z6, hM2, rfl⟩
        refine hN1 _ _ ⟨hkk, pre ++ [t], _, _, by rw [hpre]; simp, ?_, rfl⟩
        rw [hM2]
        unfold nxtT
        rw [List.flatMap_append]; simp
    · rintro ds' M1 ⟨hk1, pre, y5, y6, hpre, hMq, rfl⟩
      rw [List.append_nil] at hpre
      subst hpre
      refine ⟨trivial, ?_⟩
      push_cast []
      exact hN _ _ ⟨hk1, q, _, _, _, _, hMq, rfl⟩
  · rintro ds' M' ⟨hk, p, z3, z4, z5, z6, hMp, rfl⟩
    push_cast []
    exact h p M' hk hMp
theorem p_inner {w r : Nat} (hw : W5 w) (hr : r ≤ mostR w) (h : ∀ M', Kp M M' → Q (.lst (txs (begs w r))) M') : f_law_inner [.int w, .int r] M Q X := by
  have h8 := mostR_le (w := w)
  push_cast [f_law_inner, b_law_inner]
  refine ⟨by omega, by omega, ?_⟩
  rw [Int.toNat_natCast]
  refine for_rng (fun i ds' M' => Kp M M' ∧ ∃ z, ds' = [some (.int w), some (.int r), some (.lst (txs (begs w i))), z]) (fun i ds' M' N hi hN => ?_) ?_ _ _ ⟨.refl, none, rfl⟩
  · rintro ⟨hk, z, rfl⟩
    push_cast []
    refine up_of (p_texts_b hw (by omega) fun p M1 hk1 hp => ?_)
    have hs := small hw (i := i) (by omega)
    refine addLC hp ?_
    push_cast [txs_len, begs_len, levT_len]
    refine ⟨by omega, hN _ _ ⟨hk.trans hk1, some (.int i), ?_⟩⟩
    have e : txs (begs w i) ++ txs (levT w i) = txs (begs w (i + 1)) := by
      unfold begs txs
      rw [List.range_succ, List.flatMap_append, List.flatMap_singleton, List.map_append]
    rw [e]
  · rintro ds' M' ⟨hk, z, rfl⟩
    push_cast []
    exact h M' hk
theorem Dr.kp {a : Addr} {M M1 M2 : Mm} (hd : _root_.DL.Dr a M M1) (hk : Kp M1 M2) : _root_.DL.Dr a M M2 := hd.same hk
theorem p_dealt_all {a : Addr} {w r : Nat} (hM : Ok a M) (hw : W5 w) (hr : r ≤ mostR w) (h : ∀ S M', DL.Dr a M M' → Shs 6 w r S → Q (.lst (S.map fun s => .lst (frs s))) M') : f_law_dealt_all [.cel a, .int w, .int r] M Q X := by
  have hsm := small hw hr
  push_cast [f_law_dealt_all, b_law_dealt_all]
  refine up_of (p_dealt hM hw fun qs M1 hd1 hqs => ?_)
  push_cast []
  refine up_of (p_take hd1.ok (by decide) fun k M2 hd2 _ _ => ?_)
  push_cast []
  split
  · push_cast []
    refine up_of (p_inner hw hr fun M3 hk3 => ?_)
    push_cast []
    refine lc_map (α := List Nat) (fun _ => .lst (frs qs)) trivial (fun i N hN => ?_) (begs w r) [] (by rw [u_size, begs_len, List.length_nil]; omega) ?_
    · push_cast []
      exact hN
    push_cast []
    have := h ((begs w r).map fun _ => qs) M3 ((hd1.trans hd2).same hk3) ⟨by rw [List.length_map, begs_len], fun s hs => by obtain ⟨_, _, rfl⟩ := List.mem_map.mp hs; exact hqs⟩
    rw [List.map_map] at this
    exact this
  · push_cast []
    refine up_of (p_inner hw hr fun M3 hk3 => ?_)
    push_cast []
    refine lc_rel (α := List Nat) (fun _ d => ∃ s, d = .lst (frs s) ∧ Shr 6 w s) (fun M' => DL.Dr a M M') (fun _ _ => trivial) (fun i M' N hM' hN => ?_) (begs w r) [] M3 ((hd1.trans hd2).same hk3) (by rw [u_size, begs_len, List.length_nil]; omega) fun ys M4 hd4 hys => ?_
    · push_cast []
      exact up_of (p_dealt hM'.ok hw fun s M'' hd hs => hN _ _ (hM'.trans hd) ⟨s, rfl, hs⟩)
    obtain ⟨S, rfl, hS⟩ := hys.typed (f := fun s => Dt.lst (frs s)) (T := fun _ s => Shr 6 w s) fun _ _ ⟨s, e, p⟩ => ⟨s, e, p⟩
    push_cast []
    exact h S M4 hd4 ⟨by rw [← hS.length, begs_len], fun s hs => hS.right (P := fun s => Shr 6 w s) (fun _ _ h => h) s hs⟩
theorem p_passed {a : Addr} {w r : Nat} {S : List (List Rat)} (hM : Ok a M) (hw : W5 w) (hr : r ≤ mostR w) (hS : Shs 6 w r S) (h : ∀ ys M', DL.Dr a M M' → Rel2 (fun s d => ∃ ds, d = .lst ds ∧ Rel2 Num s ds) S ys → Q (.lst ys) M') : f_law_passed [.cel a, .lst (S.map fun s => .lst (frs s))] M Q X := by
  have w5 := hw.2
  have hsm := small hw hr
  push_cast [f_law_passed, b_law_passed]
  refine lc_rel_mem (α := List Rat) (fun s d => ∃ ds, d = .lst ds ∧ Rel2 Num s ds) (fun M' => DL.Dr a M M') (fun _ _ => trivial) S [] M (fun s M' N hs hM' hN => ?_) (.refl hM) (by rw [u_size, hS.len, List.length_nil]; omega) fun ys M3 hd3 hys => ?_
  · push_cast []
    have hh := hS.each s hs
    exact up_of (p_dressed hM'.ok hh.sz (by omega) (by rw [hh.len]; omega) fun ds M'' hd hn => hN _ _ (hM'.trans hd) ⟨ds, rfl, hn⟩)
  · push_cast []
    exact h ys M3 hd3 hys
end

end LK
set_option Elab.async false
set_option linter.all false
set_option maxRecDepth 100000
set_option maxHeartbeats 1000000
namespace LK
open PySem PySem.Spec PyProof.Rows L2 DL
local macro_rules | `(tactic| push_cast [$xs,*]) => `(tactic| repeat (first
  | with_reducible refine hold_i ?_
  | simp only [q_sp, q_st_c, q_st_n, q_st_0, q_seq, q_next, q_drop, q_ret, q_retN, q_ifS, q_break, q_cont, q_asg, q_par, q_name, q_gnil, q_gcons, q_gtup, q_for, q_var0, q_varS, q_c, q_nil, q_cons, q_tup, q_lst, q_newF, q_newT, q_op, q_test,
    q_and, q_or, q_not, q_andV, q_orV, q_notV, q_if, q_call, q_callK, q_cb, q_bm, q_bm0, q_frz, q_frzC, q_neg, q_sub, q_subC, q_lc, q_lc2, q_dc, q_yes, q_wipe0, q_wipeS, q_sl, q_noPart, q_part, q_cutS, q_cutT, q_cutL, q_cutC, q_rvC, q_rvL,
    q_lvC, q_lvL, q_clC, q_sqT, q_sqL, q_sqC, q_addI, q_addS, q_addT, q_addL, q_subI, q_mulI, q_divI, q_modI, q_powI, q_cmpI, q_eqI, q_neI, q_eqStr, q_isN, q_notN, q_ixT, q_ixL, q_ixC, q_ixS, q_at0, q_at1, q_at2, q_at3, q_at4, q_at5, q_at6, q_at7, q_at8, q_at9,
    q_len, q_lenT, q_lenL, q_lenC, q_lenS, q_sum, q_sumA, q_intI, q_intS, q_str, q_abs, q_max, q_min, q_list, q_tuple, q_isi, q_tyN, q_tyB, q_tyI, q_tyS, q_tyT, q_tyL, q_tyC, q_append, q_extend, q_rng1, q_sqi, u_isN, u_isB, u_isI, u_isS, u_isT, u_isL, u_isR, u_isD, u_isO, u_isC, q_frIx0, q_frIx1, q_frTup, q_frTy, q_frLen, q_raise0, q_raiseF, q_isi2, q_make, q_fld, q_setF, q_prop, q_meth, q_callO, q_inD, q_dget, q_inS, q_revS, q_revX, q_enumS, q_enum, q_zip, q_rev, q_rng2, q_rng3, q_insert, q_reverse, q_join, q_isTyS, q_isTyL, q_cntB, q_isTyC, q_isE, q_xf, q_ones, q_callE, q_ovO, q_ovC, q_dvD, q_keyS, q_keyI, q_den, kb_NoneType_bool, kb_NoneType_int, kb_NoneType_str, kb_NoneType_tuple, kb_NoneType_list, kb_NoneType_dict, kb_bool_bool, kb_bool_int, kb_bool_str, kb_bool_tuple, kb_bool_list, kb_bool_dict, kb_int_bool, kb_int_int, kb_int_str, kb_int_tuple, kb_int_list, kb_int_dict, kb_str_bool, kb_str_int, kb_str_str, kb_str_tuple, kb_str_list, kb_str_dict, kb_tuple_bool, kb_tuple_int, kb_tuple_str, kb_tuple_tuple, kb_tuple_list, kb_tuple_dict, kb_list_bool, kb_list_int, kb_list_str, kb_list_tuple, kb_list_list, kb_list_dict, kb_dict_bool, kb_dict_int, kb_dict_str, kb_dict_tuple, kb_dict_list, kb_dict_dict, u_cast, q_ixN0, q_ixN1, q_ixN2, q_ixN3, q_ixN4, mput_mput, Option.some.injEq, Dt.lst.injEq, Dt.cel.injEq, Prod.mk.injEq, lk_pl0, lk_pl1, lk_pl2, lk_pl3,  Dt.obj.injEq,  Dt.int.injEq, exists_eq_left', exists_eq_left, exists_and_left, u_mapC, u_mapE,  not_true_eq_false, not_false_eq_true, eq_self, u_size, Nat.reduceLeDiff, Nat.reduceLT, 
    u_set0, u_setS, u_lenC, u_lenN, List.append_nil, u_nilA, u_consA, u_mapS, u_mapN, u_bindS, u_bindN, mput_same,
    true_and, and_true, decide_eq_true_eq, Bool.not_eq_true', decide_eq_false_iff_not, u_notT, u_notF, if_true, if_false, ite_true, ite_false, Bool.false_eq_true, reduceCtorEq, reduceIte, Nat.reduceAdd, $xs,*]))
local macro_rules | `(tactic| push_cast only [$xs,*]) => `(tactic| (try with_reducible refine hold_i ?_); (simp only [q_sp, q_st_c, q_st_n, q_st_0, q_seq, q_next, q_drop, q_ret, q_retN, q_ifS, q_break, q_cont, q_asg, q_par, q_name, q_gnil, q_gcons, q_gtup, q_for, q_var0, q_varS, q_c, q_nil, q_cons, q_tup, q_lst, q_newF, q_newT, q_op, q_test,
    q_and, q_or, q_not, q_andV, q_orV, q_notV, q_if, q_call, q_callK, q_cb, q_bm, q_bm0, q_frz, q_frzC, q_neg, q_sub, q_subC, q_lc, q_lc2, q_dc, q_yes, q_wipe0, q_wipeS, q_sl, q_noPart, q_part, q_cutS, q_cutT, q_cutL, q_cutC, q_rvC, q_rvL,
    q_lvC, q_lvL, q_clC, q_sqT, q_sqL, q_sqC, q_addI, q_addS, q_addT, q_addL, q_subI, q_mulI, q_divI, q_modI, q_powI, q_cmpI, q_eqI, q_neI, q_eqStr, q_isN, q_notN, q_ixT, q_ixL, q_ixC, q_ixS, q_at0, q_at1, q_at2, q_at3, q_at4, q_at5, q_at6, q_at7, q_at8, q_at9,
    q_len, q_lenT, q_lenL, q_lenC, q_lenS, q_sum, q_sumA, q_intI, q_intS, q_str, q_abs, q_max, q_min, q_list, q_tuple, q_isi, q_tyN, q_tyB, q_tyI, q_tyS, q_tyT, q_tyL, q_tyC, q_append, q_extend, q_rng1, q_sqi, u_isN, u_isB, u_isI, u_isS, u_isT, u_isL, u_isR, u_isD, u_isO, u_isC, q_frIx0, q_frIx1, q_frTup, q_frTy, q_frLen, q_raise0, q_raiseF, q_isi2, q_make, q_fld, q_setF, q_prop, q_meth, q_callO, q_inD, q_dget, q_inS, q_revS, q_revX, q_enumS, q_enum, q_zip, q_rev, q_rng2, q_rng3, q_insert, q_reverse, q_join, q_isTyS, q_isTyL, q_cntB, q_isTyC, q_isE, q_xf, q_ones, q_callE, q_ovO, q_ovC, q_dvD, q_keyS, q_keyI, q_den, kb_NoneType_bool, kb_NoneType_int, kb_NoneType_str, kb_NoneType_tuple, kb_NoneType_list, kb_NoneType_dict, kb_bool_bool, kb_bool_int, kb_bool_str, kb_bool_tuple, kb_bool_list, kb_bool_dict, kb_int_bool, kb_int_int, kb_int_str, kb_int_tuple, kb_int_list, kb_int_dict, kb_str_bool, kb_str_int, kb_str_str, kb_str_tuple, kb_str_list, kb_str_dict, kb_tuple_bool, kb_tuple_int, kb_tuple_str, kb_tuple_tuple, kb_tuple_list, kb_tuple_dict, kb_list_bool, kb_list_int, kb_list_str, kb_list_tuple, kb_list_list, kb_list_dict, kb_dict_bool, kb_dict_int, kb_dict_str, kb_dict_tuple, kb_dict_list, kb_dict_dict, u_cast, q_ixN0, q_ixN1, q_ixN2, q_ixN3, q_ixN4, mput_mput, Option.some.injEq, Dt.lst.injEq, Dt.cel.injEq, Prod.mk.injEq, lk_pl0, lk_pl1, lk_pl2, lk_pl3,  Dt.obj.injEq,  Dt.int.injEq, exists_eq_left', exists_eq_left, exists_and_left, u_mapC, u_mapE,  not_true_eq_false, not_false_eq_true, eq_self, u_size, Nat.reduceLeDiff, Nat.reduceLT, 
    u_set0, u_setS, u_lenC, u_lenN, List.append_nil, u_nilA, u_consA, u_mapS, u_mapN, u_bindS, u_bindN, mput_same,
    true_and, and_true, decide_eq_true_eq, Bool.not_eq_true', decide_eq_false_iff_not, u_notT, u_notF, if_true, if_false, ite_true, ite_false, Bool.false_eq_true, reduceCtorEq, reduceIte, Nat.reduceAdd, $xs,*]))
section
variable {M : Mm} {Q : DQ} {X : DX}
theorem p_Plan_shares {w r : Nat} {S : List (List Rat)} (h : ∀ p, M p = none → Q (.cel p) (mput M p (.lst (S.map shD)))) : f_Plan_shares [planD w r S] M Q X := by
  unfold planD
  push_cast [f_Plan_shares, b_Plan_shares]
  exact h
theorem p_told_shares {S : List (List Rat)} (hl : S.length ≤ 1000) (h : Q (.lst (S.map shD)) M) : f_law_told_shares [.lst (S.map fun s => .lst (frs s))] M Q X := by
  push_cast [f_law_told_shares, b_law_told_shares]
  refine lc_map (α := List Rat) shD trivial (fun s N hN => ?_) S [] (by rw [u_size, List.length_nil]; omega) ?_
  · push_cast []
    exact hN
  · push_cast []
    exact h
theorem sm_shD {n : Nat} {s : List Rat} (h : s.length ≤ 1000) : Sm (n + 3) (shD s) := by
  refine ⟨by unfold DL.frs; rw [List.length_map]; omega, fun x hx => ?_⟩
  obtain ⟨k, _, rfl⟩ := List.mem_map.mp hx
  exact sm_fr
theorem p_is_plan {n w r : Nat} {S : List (List Rat)} (hw : W5 w) (hr : r ≤ mostR w) (hS : Shs n w r S) (h : ∀ M', Kp M M' → Q (.bl true) M') : f_law_is_plan [planD w r S, .int w, .int r, .lst (S.map fun s => .lst (frs s))] M Q X := by
  have hsm := small hw hr
  have w5 := hw.2
  push_cast [f_law_is_plan, b_law_is_plan]
  refine ⟨isPlD, up_of (p_Plan_width ?_)⟩
  push_cast []
  refine up_of (p_same 5 trivial (.inl rfl) ?_)
  push_cast []
  refine ⟨isPlD, up_of (p_Plan_rounds ?_)⟩
  push_cast []
  refine up_of (p_same 5 trivial (.inl rfl) ?_)
  push_cast []
  refine ⟨isPlD, up_of (p_Plan_shares fun p hp => ?_)⟩
  push_cast []
  refine up_of (p_told_shares (by rw [hS.len]; omega) ?_)
  push_cast []
  refine up_of (p_same 5 ?_ (.inr ⟨p, _, rfl, rfl, mput_same⟩) (h _ (Kp.refl.new hp)))
  refine ⟨by rw [List.length_map, hS.len]; omega, fun x hx => ?_⟩
  obtain ⟨s, hs, rfl⟩ := List.mem_map.mp hx
  exact sm_shD (n := 1) (by rw [(hS.each s hs).len]; omega)
theorem p_index {w : Nat} {t : List Nat} (hw : W5 w) (ht : Dig w t) (h : Q (.int (idx w t : Nat)) M) : f_law_index [.int w, .str (dg t)] M Q X := by
  have w5 := hw.2
  push_cast [f_law_index, b_law_index]
  rw [signs_dg]
  refine for_map (α := Nat) (fun rest ds' M' => M' = M ∧ ∃ (pre : List Nat) (z : Option Dt), t = pre ++ rest ∧ ds' = [some (.int w), some (.str (dg t)), some (.int (idx w pre : Nat)), z]) ?_ ?_ t _ _ ⟨rfl, [], none, rfl, rfl⟩
  · rintro d rest ds' M' N hN ⟨rfl, pre, z, e, rfl⟩
    refine ⟨trivial, ?_⟩
    have hd : d < w := ht d (by rw [e]; simp)
    push_cast []
    refine ⟨cm_c (by omega) (by omega), ⟨_, digit_int (d := d) (by omega), by rw [dg_len]; simp, ?_⟩⟩
    refine hN _ _ ⟨rfl, pre ++ [d], some (.str (dg [d])), by simp [e], ?_⟩
    rw [idx_snoc]; rfl
  · rintro ds' M' ⟨rfl, pre, z, e, rfl⟩
    rw [List.append_nil] at e
    subst e
    refine ⟨trivial, ?_⟩
    push_cast []
    exact h
theorem p_law_cut {c ks : List Nat} (hs : ks.sum = c.length) (hl : c.length ≤ 1000) (hl2 : ks.length ≤ 1000) (h : Q (.lst ((partsAt (fun s k => (c.drop s).take k) 0 ks).map fun l => .str (mkS l))) M) : f_law_cut [.str (mkS c), .lst (lenD' ks)] M Q X := by
  push_cast [f_law_cut, b_law_cut]
  intro p hp
  push_cast []
  refine cut_loop (fun _ _ => trivial) hp hs hl hl2 fun M' v z hfr hM' => ?_
  push_cast [hM']
  rw [mdel_back (d := .non) hp hfr fun b hb => rfl]
  exact h
theorem p_check_beginning {w r : Nat} {S : List (List Rat)} {t : List Nat} (hw : W5 w) (hr : r ≤ mostR w) (ht : Dig w t) (hl : t.length ≤ r) (h : Q .non M) : f_check_beginning [planD w r S, .str (dg t)] M Q X := by
  have h8 := mostR_le (w := w)
  push_cast [f_check_beginning, b_check_beginning, dg_len]
  rw [if_pos (by omega)]
  push_cast []
  refine ⟨isPlD, up_of (p_Plan_rounds ?_)⟩
  push_cast [dg_len]
  rw [if_neg (by omega)]
  push_cast []
  refine ⟨isPlD, up_of (p_Plan_width ?_)⟩
  push_cast []
  refine up_of (p_is_row (r := t.length) (c := t.map (· + 48)) hw (by omega) (by rw [List.length_map]; omega) ?_)
  push_cast [decide_eq_true (rowC_dg ht rfl)]
  exact h
theorem p_row_misses {n w r : Nat} {S : List (List Rat)} {t : List Nat} (hw : W5 w) (hr : r ≤ mostR w) (hS : Shs n w r S) (hn : 1 ≤ n) (hn2 : n ≤ 100) (ht : Dig w t) (hl : t.length ≤ r) (h : Q (fr (missOn w S t)) M) : f_row_misses [planD w r S, .str (dg t)] M Q X := by
  have h8 := mostR_le (w := w)
  push_cast [f_row_misses, b_row_misses]
  refine up_of (p_check_beginning hw hr ht hl ?_)
  push_cast []
  refine up_of (p_shares_on hw hr hS ht hl ?_)
  push_cast []
  have hz : ∀ q ∈ shF w S 0 t, Sz n q := by
    have key : ∀ (l : List Nat) (a : Nat), ∀ q ∈ shF w S a l, Sz n q := by
      intro l
      induction l with
      | nil => intro a q hq; cases hq
      | cons d l ih =>
        intro a q hq
        rcases List.mem_cons.mp hq with e | e
        · subst e; exact sh_sz hS hn
        · exact ih _ q e
    exact key t 0
  refine lc_map_mem (α := Rat) (fun q => fr (1 - q)) trivial (shF w S 0 t) [] (fun q N hq hN => ?_) (by rw [u_size, List.length_nil, shF_len]; omega) ?_
  · push_cast []
    exact up_of (p_sub_int (n := 1) (by decide) (by decide) (hz q hq) (by omega) hN)
  · push_cast []
    have e : (shF w S 0 t).map (fun q => fr (1 - q)) = frs (stF w S 0 t) := by
      unfold stF DL.frs
      rw [List.map_map]; rfl
    rw [e]
    refine up_of (p_total_lst (st_sz hS hn t 0) ?_ h)
    rw [stF_len]
    have : (t.length + 1) * (n + 2 + 1) ≤ 9 * 103 := Nat.mul_le_mul (by omega) (by omega)
    omega
theorem p_law_sum {n : Nat} {qs : List Rat} (hq : ∀ q ∈ qs, Sz n q) (hl : (qs.length + 1) * (n + 1) ≤ 3000) (h : Q (fr (sumR qs)) M) : f_law_sum [.lst (frs qs)] M Q X := by
  have e01 : (Dt.tup [.int 0, .int 1]) = fr 0 := rfl
  push_cast [f_law_sum, b_law_sum, e01]
  refine for_map (α := Rat) (fun r ds' M' => M' = M ∧ (∀ q ∈ r, Sz n q) ∧ ∃ (m : Nat) (a : Rat) (z : Option Dt), Sz m a ∧ m + r.length * (n + 1) ≤ 3000 ∧ r.foldl (· + ·) a = sumR qs ∧ ds' = [some (.lst (frs qs)), some (fr a), z]) ?_ ?_ qs _ _ ⟨rfl, hq, 1, 0, none, sz_0, by rw [Nat.succ_mul] at hl; omega, rfl, rfl⟩
  · rintro q r ds' M' N hN ⟨rfl, hr, m, a, z, ha, hm, hs, rfl⟩
    refine ⟨trivial, ?_⟩
    rw [List.length_cons, Nat.succ_mul] at hm
    have sq := hr q List.mem_cons_self
    push_cast []
    refine up_of (p_plus ha sq (by omega) ?_)
    push_cast []
    exact hN _ _ ⟨rfl, fun x hx => hr x (List.mem_cons_of_mem _ hx), m + n + 1, a + q, _, ha.add sq (Nat.le_refl _), by omega, hs, rfl⟩
  · rintro ds' M' ⟨rfl, hr, m, a, z, ha, hm, hs, rfl⟩
    refine ⟨trivial, ?_⟩
    push_cast []
    have hs : a = sumR qs := hs
    rw [hs]
    exact h
end

end LK
set_option Elab.async false
set_option linter.all false
set_option maxRecDepth 100000
set_option maxHeartbeats 1000000
namespace LK
open PySem PySem.Spec PyProof.Rows L2 DL
local macro_rules | `(tactic| push_cast [$xs,*]) => `(tactic| repeat (first
  | with_reducible refine hold_i ?_
  | simp only [q_sp, q_st_c, q_st_n, q_st_0, q_seq, q_next, q_drop, q_ret, q_retN, q_ifS, q_break, q_cont, q_asg, q_par, q_name, q_gnil, q_gcons, q_gtup, q_for, q_var0, q_varS, q_c, q_nil, q_cons, q_tup, q_lst, q_newF, q_newT, q_op, q_test,
    q_and, q_or, q_not, q_andV, q_orV, q_notV, q_if, q_call, q_callK, q_cb, q_bm, q_bm0, q_frz, q_frzC, q_neg, q_sub, q_subC, q_lc, q_lc2, q_dc, q_yes, q_wipe0, q_wipeS, q_sl, q_noPart, q_part, q_cutS, q_cutT, q_cutL, q_cutC, q_rvC, q_rvL,
    q_lvC, q_lvL, q_clC, q_sqT, q_sqL, q_sqC, q_addI, q_addS, q_addT, q_addL, q_subI, q_mulI, q_divI, q_modI, q_powI, q_cmpI, q_eqI, q_neI, q_eqStr, q_isN, q_notN, q_ixT, q_ixL, q_ixC, q_ixS, q_at0, q_at1, q_at2, q_at3, q_at4, q_at5, q_at6, q_at7, q_at8, q_at9,
    q_len, q_lenT, q_lenL, q_lenC, q_lenS, q_sum, q_sumA, q_intI, q_intS, q_str, q_abs, q_max, q_min, q_list, q_tuple, q_isi, q_tyN, q_tyB, q_tyI, q_tyS, q_tyT, q_tyL, q_tyC, q_append, q_extend, q_rng1, q_sqi, u_isN, u_isB, u_isI, u_isS, u_isT, u_isL, u_isR, u_isD, u_isO, u_isC, q_frIx0, q_frIx1, q_frTup, q_frTy, q_frLen, q_raise0, q_raiseF, q_isi2, q_make, q_fld, q_setF, q_prop, q_meth, q_callO, q_inD, q_dget, q_inS, q_revS, q_revX, q_enumS, q_enum, q_zip, q_rev, q_rng2, q_rng3, q_insert, q_reverse, q_join, q_isTyS, q_isTyL, q_cntB, q_isTyC, q_isE, q_xf, q_ones, q_callE, q_ovO, q_ovC, q_dvD, q_keyS, q_keyI, q_den, kb_NoneType_bool, kb_NoneType_int, kb_NoneType_str, kb_NoneType_tuple, kb_NoneType_list, kb_NoneType_dict, kb_bool_bool, kb_bool_int, kb_bool_str, kb_bool_tuple, kb_bool_list, kb_bool_dict, kb_int_bool, kb_int_int, kb_int_str, kb_int_tuple, kb_int_list, kb_int_dict, kb_str_bool, kb_str_int, kb_str_str, kb_str_tuple, kb_str_list, kb_str_dict, kb_tuple_bool, kb_tuple_int, kb_tuple_str, kb_tuple_tuple, kb_tuple_list, kb_tuple_dict, kb_list_bool, kb_list_int, kb_list_str, kb_list_tuple, kb_list_list, kb_list_dict, kb_dict_bool, kb_dict_int, kb_dict_str, kb_dict_tuple, kb_dict_list, kb_dict_dict, u_cast, q_ixN0, q_ixN1, q_ixN2, q_ixN3, q_ixN4, mput_mput, Option.some.injEq, Dt.lst.injEq, Dt.cel.injEq, Prod.mk.injEq, lk_pl0, lk_pl1, lk_pl2, lk_pl3,  Dt.obj.injEq,  Dt.int.injEq, exists_eq_left', exists_eq_left, exists_and_left, u_mapC, u_mapE,  not_true_eq_false, not_false_eq_true, eq_self, u_size, Nat.reduceLeDiff, Nat.reduceLT, 
    u_set0, u_setS, u_lenC, u_lenN, List.append_nil, u_nilA, u_consA, u_mapS, u_mapN, u_bindS, u_bindN, mput_same,
    true_and, and_true, decide_eq_true_eq, Bool.not_eq_true', decide_eq_false_iff_not, u_notT, u_notF, if_true, if_false, ite_true, ite_false, Bool.false_eq_true, reduceCtorEq, reduceIte, Nat.reduceAdd, $xs,*]))
local macro_rules | `(tactic| push_cast only [$xs,*]) => `(tactic| (try with_reducible refine hold_i ?_); (simp only [q_sp, q_st_c, q_st_n, q_st_0, q_seq, q_next, q_drop, q_ret, q_retN, q_ifS, q_break, q_cont, q_asg, q_par, q_name, q_gnil, q_gcons, q_gtup, q_for, q_var0, q_varS, q_c, q_nil, q_cons, q_tup, q_lst, q_newF, q_newT, q_op, q_test,
    q_and, q_or, q_not, q_andV, q_orV, q_notV, q_if, q_call, q_callK, q_cb, q_bm, q_bm0, q_frz, q_frzC, q_neg, q_sub, q_subC, q_lc, q_lc2, q_dc, q_yes, q_wipe0, q_wipeS, q_sl, q_noPart, q_part, q_cutS, q_cutT, q_cutL, q_cutC, q_rvC, q_rvL,
    q_lvC, q_lvL, q_clC, q_sqT, q_sqL, q_sqC, q_addI, q_addS, q_addT, q_addL, q_subI, q_mulI, q_divI, q_modI, q_powI, q_cmpI, q_eqI, q_neI, q_eqStr, q_isN, q_notN, q_ixT, q_ixL, q_ixC, q_ixS, q_at0, q_at1, q_at2, q_at3, q_at4, q_at5, q_at6, q_at7, q_at8, q_at9,
    q_len, q_lenT, q_lenL, q_lenC, q_lenS, q_sum, q_sumA, q_intI, q_intS, q_str, q_abs, q_max, q_min, q_list, q_tuple, q_isi, q_tyN, q_tyB, q_tyI, q_tyS, q_tyT, q_tyL, q_tyC, q_append, q_extend, q_rng1, q_sqi, u_isN, u_isB, u_isI, u_isS, u_isT, u_isL, u_isR, u_isD, u_isO, u_isC, q_frIx0, q_frIx1, q_frTup, q_frTy, q_frLen, q_raise0, q_raiseF, q_isi2, q_make, q_fld, q_setF, q_prop, q_meth, q_callO, q_inD, q_dget, q_inS, q_revS, q_revX, q_enumS, q_enum, q_zip, q_rev, q_rng2, q_rng3, q_insert, q_reverse, q_join, q_isTyS, q_isTyL, q_cntB, q_isTyC, q_isE, q_xf, q_ones, q_callE, q_ovO, q_ovC, q_dvD, q_keyS, q_keyI, q_den, kb_NoneType_bool, kb_NoneType_int, kb_NoneType_str, kb_NoneType_tuple, kb_NoneType_list, kb_NoneType_dict, kb_bool_bool, kb_bool_int, kb_bool_str, kb_bool_tuple, kb_bool_list, kb_bool_dict, kb_int_bool, kb_int_int, kb_int_str, kb_int_tuple, kb_int_list, kb_int_dict, kb_str_bool, kb_str_int, kb_str_str, kb_str_tuple, kb_str_list, kb_str_dict, kb_tuple_bool, kb_tuple_int, kb_tuple_str, kb_tuple_tuple, kb_tuple_list, kb_tuple_dict, kb_list_bool, kb_list_int, kb_list_str, kb_list_tuple, kb_list_list, kb_list_dict, kb_dict_bool, kb_dict_int, kb_dict_str, kb_dict_tuple, kb_dict_list, kb_dict_dict, u_cast, q_ixN0, q_ixN1, q_ixN2, q_ixN3, q_ixN4, mput_mput, Option.some.injEq, Dt.lst.injEq, Dt.cel.injEq, Prod.mk.injEq, lk_pl0, lk_pl1, lk_pl2, lk_pl3,  Dt.obj.injEq,  Dt.int.injEq, exists_eq_left', exists_eq_left, exists_and_left, u_mapC, u_mapE,  not_true_eq_false, not_false_eq_true, eq_self, u_size, Nat.reduceLeDiff, Nat.reduceLT, 
    u_set0, u_setS, u_lenC, u_lenN, List.append_nil, u_nilA, u_consA, u_mapS, u_mapN, u_bindS, u_bindN, mput_same,
    true_and, and_true, decide_eq_true_eq, Bool.not_eq_true', decide_eq_false_iff_not, u_notT, u_notF, if_true, if_false, ite_true, ite_false, Bool.false_eq_true, reduceCtorEq, reduceIte, Nat.reduceAdd, $xs,*]))
section
variable {M : Mm} {Q : DQ} {X : DX}
/-- the end of the last stretch that is finished within l -/
def lastEnd (l : Nat) : Nat → List Nat → Nat
  | e, [] => e
  | e, k :: ks => if l < e + k then e else lastEnd l (e + k) ks
theorem lastEnd_le {l : Nat} : ∀ (ks : List Nat) (e : Nat), e ≤ l → lastEnd l e ks ≤ l
  | [], _, h => h
  | k :: ks, e, h => by
    unfold lastEnd
    split
    · exact h
    · exact lastEnd_le ks (e + k) (by omega)
theorem lastEnd_snoc {l k : Nat} : ∀ (pre : List Nat) (e : Nat), lastEnd l e (pre ++ [k]) = if e + pre.sum + k ≤ l then e + pre.sum + k else lastEnd l e pre
  | [], e => by
    have e0 : e + ([] : List Nat).sum + k = e + k := rfl
    rw [e0]
    show (if l < e + k then e else e + k) = if e + k ≤ l then e + k else e
    by_cases h : l < e + k
    · rw [if_pos h, if_neg (by omega)]
    · rw [if_neg h, if_pos (by omega)]
  | x :: pre, e => by
    have ih := lastEnd_snoc (l := l) (k := k) pre (e + x)
    rw [List.cons_append, List.sum_cons]
    unfold lastEnd
    split
    · rw [if_neg (by omega)]
    · rw [ih]
      have : e + (x + pre.sum) + k = e + x + pre.sum + k := by omega
      rw [this]
def starts (r : Nat) (f : Nat → Nat) : List Dt := (List.range r).map fun l => .int (f l : Nat)
theorem starts_len {r : Nat} {f : Nat → Nat} : (starts r f).length = r := by unfold starts; rw [List.length_map, List.length_range]
theorem starts_at {r i : Nat} {f : Nat → Nat} (h : i < r) : (starts r f)[i]? = some (.int (f i : Nat)) := by
  unfold starts
  rw [List.getElem?_map, List.getElem?_range h]; rfl
theorem starts_set {r i v : Nat} {f : Nat → Nat} : (starts r f).set i (.int (v : Nat)) = starts r (fun l => if l = i then v else f l) := by
  apply List.ext_getElem?
  intro j
  rw [List.getElem?_set]
  unfold starts
  rw [List.length_map, List.length_range]
  by_cases hij : i = j
  · subst hij
    rw [if_pos rfl]
    by_cases hr : i < r
    · rw [if_pos hr, List.getElem?_map, List.getElem?_range hr]
      simp
    · rw [if_neg hr, List.getElem?_eq_none (by simp; omega)]
  · rw [if_neg hij, List.getElem?_map, List.getElem?_map]
    by_cases hr : j < r
    · rw [List.getElem?_range hr]
      simp [Ne.symm hij]
    · rw [List.getElem?_eq_none (by simp; omega)]; rfl
/-- the inner loop: from the end on -/
theorem fill_loop {x : Dt} {r e : Nat} {f : Nat → Nat} {p : Addr} {z z2 : Option Dt} {n : DSt → Mm → Prop} {rr : DQ} {b c : DSt → Mm → Prop} (hp : M p = some (.lst (starts r f)))
    (hn : ∀ M' z, (∀ b, b ≠ p → M' b = M b) → M' p = some (.lst (starts r (fun l => if e ≤ l then e else f l))) → n [some x, some (.int r), some (.cel p), some (.int e), z2, z] M') :
    dForL (dName 5) (dAsg (dVar 3) (dSub (dVar 2) (dVar 5))) ⟨n, rr, b, c⟩ (fun _ => True) (rngD (e : Int) ((r : Int) - e).toNat) [some x, some (.int r), some (.cel p), some (.int e), z2, z] M := by
  have er : rngD (e : Int) ((r : Int) - e).toNat = (List.range (r - e)).map fun (i : Nat) => Dt.int ((e + i : Nat) : Int) := by
    unfold rngD
    have : ((r : Int) - e).toNat = r - e := by omega
    rw [this]
    congr 1
  rw [er]
  have key : ∀ (m i : Nat) (M' : Mm) (z : Option Dt), i + m = r - e → (∀ b, b ≠ p → M' b = M b) → M' p = some (.lst (starts r (fun l => if e ≤ l ∧ l < e + i then e else f l))) →
      dForL (dName 5) (dAsg (dVar 3) (dSub (dVar 2) (dVar 5))) ⟨n, rr, b, c⟩ (fun _ => True) ((List.range' i m).map fun (i : Nat) => Dt.int ((e + i : Nat) : Int)) [some x, some (.int r), some (.cel p), some (.int e), z2, z] M' := by
    intro m
    induction m with
    | zero =>
      intro i M' z hi hfr hM'
      refine ⟨trivial, hn M' z hfr ?_⟩
      rw [hM']
      congr 2
      unfold starts
      refine List.map_congr_left fun l hl => ?_
      have := List.mem_range.mp hl
      congr 2
      show (_ : Nat) = _
      dsimp only
      by_cases h1 : e ≤ l
      · rw [if_pos ⟨h1, by omega⟩, if_pos h1]
      · rw [if_neg (fun z => h1 z.1), if_neg h1]
    | succ m ih =>
      intro i M' z hi hfr hM'
      refine ⟨trivial, ?_⟩
      push_cast [hM']
      refine ⟨e + i, ixN_lt (by rw [starts_len]; omega), ?_⟩
      refine ih (i + 1) _ _ (by omega) (fun b hb => (mput_ne hb).trans (hfr b hb)) ?_
      rw [mput_same, starts_set]
      congr 2
      unfold starts
      refine List.map_congr_left fun l hl => ?_
      congr 2
      dsimp only
      by_cases h1 : l = e + i
      · rw [if_pos h1, if_pos ⟨by omega, by omega⟩]
      · rw [if_neg h1]
        by_cases h2 : e ≤ l ∧ l < e + i
        · rw [if_pos h2, if_pos ⟨h2.1, by omega⟩]
        · rw [if_neg h2, if_neg (fun z => h2 ⟨z.1, by omega⟩)]
  have := key (r - e) 0 M z (by omega) (fun _ _ => rfl) (by
    rw [hp]
    congr 2
    unfold starts
    refine List.map_congr_left fun l hl => ?_
    dsimp only
    rw [if_neg (by omega)])
  rw [List.range_eq_range']
  exact this
end

end LK
set_option Elab.async false
set_option linter.all false
set_option maxRecDepth 100000
set_option maxHeartbeats 1000000
namespace LK
open PySem PySem.Spec PyProof.Rows L2 DL
local macro_rules | `(tactic| push_cast [$xs,*]) => `(tactic| repeat (first
  | with_reducible refine hold_i ?_
  | simp only [q_sp, q_st_c, q_st_n, q_st_0, q_seq, q_next, q_drop, q_ret, q_retN, q_ifS, q_break, q_cont, q_asg, q_par, q_name, q_gnil, q_gcons, q_gtup, q_for, q_var0, q_varS, q_c, q_nil, q_cons, q_tup, q_lst, q_newF, q_newT, q_op, q_test,
    q_and, q_or, q_not, q_andV, q_orV, q_notV, q_if, q_call, q_callK, q_cb, q_bm, q_bm0, q_frz, q_frzC, q_neg, q_sub, q_subC, q_lc, q_lc2, q_dc, q_yes, q_wipe0, q_wipeS, q_sl, q_noPart, q_part, q_cutS, q_cutT, q_cutL, q_cutC, q_rvC, q_rvL,
    q_lvC, q_lvL, q_clC, q_sqT, q_sqL, q_sqC, q_addI, q_addS, q_addT, q_addL, q_subI, q_mulI, q_divI, q_modI, q_powI, q_cmpI, q_eqI, q_neI, q_eqStr, q_isN, q_notN, q_ixT, q_ixL, q_ixC, q_ixS, q_at0, q_at1, q_at2, q_at3, q_at4, q_at5, q_at6, q_at7, q_at8, q_at9,
    q_len, q_lenT, q_lenL, q_lenC, q_lenS, q_sum, q_sumA, q_intI, q_intS, q_str, q_abs, q_max, q_min, q_list, q_tuple, q_isi, q_tyN, q_tyB, q_tyI, q_tyS, q_tyT, q_tyL, q_tyC, q_append, q_extend, q_rng1, q_sqi, u_isN, u_isB, u_isI, u_isS, u_isT, u_isL, u_isR, u_isD, u_isO, u_isC, q_frIx0, q_frIx1, q_frTup, q_frTy, q_frLen, q_raise0, q_raiseF, q_isi2, q_make, q_fld, q_setF, q_prop, q_meth, q_callO, q_inD, q_dget, q_inS, q_revS, q_revX, q_enumS, q_enum, q_zip, q_rev, q_rng2, q_rng3, q_insert, q_reverse, q_join, q_isTyS, q_isTyL, q_cntB, q_isTyC, q_isE, q_xf, q_ones, q_callE, q_ovO, q_ovC, q_dvD, q_keyS, q_keyI, q_den, kb_NoneType_bool, kb_NoneType_int, kb_NoneType_str, kb_NoneType_tuple, kb_NoneType_list, kb_NoneType_dict, kb_bool_bool, kb_bool_int, kb_bool_str, kb_bool_tuple, kb_bool_list, kb_bool_dict, kb_int_bool, kb_int_int, kb_int_str, kb_int_tuple, kb_int_list, kb_int_dict, kb_str_bool, kb_str_int, kb_str_str, kb_str_tuple, kb_str_list, kb_str_dict, kb_tuple_bool, kb_tuple_int, kb_tuple_str, kb_tuple_tuple, kb_tuple_list, kb_tuple_dict, kb_list_bool, kb_list_int, kb_list_str, kb_list_tuple, kb_list_list, kb_list_dict, kb_dict_bool, kb_dict_int, kb_dict_str, kb_dict_tuple, kb_dict_list, kb_dict_dict, u_cast, q_ixN0, q_ixN1, q_ixN2, q_ixN3, q_ixN4, mput_mput, Option.some.injEq, Dt.lst.injEq, Dt.cel.injEq, Prod.mk.injEq, lk_pl0, lk_pl1, lk_pl2, lk_pl3,  Dt.obj.injEq,  Dt.int.injEq, exists_eq_left', exists_eq_left, exists_and_left, u_mapC, u_mapE,  not_true_eq_false, not_false_eq_true, eq_self, u_size, Nat.reduceLeDiff, Nat.reduceLT, 
    u_set0, u_setS, u_lenC, u_lenN, List.append_nil, u_nilA, u_consA, u_mapS, u_mapN, u_bindS, u_bindN, mput_same,
    true_and, and_true, decide_eq_true_eq, Bool.not_eq_true', decide_eq_false_iff_not, u_notT, u_notF, if_true, if_false, ite_true, ite_false, Bool.false_eq_true, reduceCtorEq, reduceIte, Nat.reduceAdd, $xs,*]))
local macro_rules | `(tactic| push_cast only [$xs,*]) => `(tactic| (try with_reducible refine hold_i ?_); (simp only [q_sp, q_st_c, q_st_n, q_st_0, q_seq, q_next, q_drop, q_ret, q_retN, q_ifS, q_break, q_cont, q_asg, q_par, q_name, q_gnil, q_gcons, q_gtup, q_for, q_var0, q_varS, q_c, q_nil, q_cons, q_tup, q_lst, q_newF, q_newT, q_op, q_test,
    q_and, q_or, q_not, q_andV, q_orV, q_notV, q_if, q_call, q_callK, q_cb, q_bm, q_bm0, q_frz, q_frzC, q_neg, q_sub, q_subC, q_lc, q_lc2, q_dc, q_yes, q_wipe0, q_wipeS, q_sl, q_noPart, q_part, q_cutS, q_cutT, q_cutL, q_cutC, q_rvC, q_rvL,
    q_lvC, q_lvL, q_clC, q_sqT, q_sqL, q_sqC, q_addI, q_addS, q_addT, q_addL, q_subI, q_mulI, q_divI, q_modI, q_powI, q_cmpI, q_eqI, q_neI, q_eqStr, q_isN, q_notN, q_ixT, q_ixL, q_ixC, q_ixS, q_at0, q_at1, q_at2, q_at3, q_at4, q_at5, q_at6, q_at7, q_at8, q_at9,
    q_len, q_lenT, q_lenL, q_lenC, q_lenS, q_sum, q_sumA, q_intI, q_intS, q_str, q_abs, q_max, q_min, q_list, q_tuple, q_isi, q_tyN, q_tyB, q_tyI, q_tyS, q_tyT, q_tyL, q_tyC, q_append, q_extend, q_rng1, q_sqi, u_isN, u_isB, u_isI, u_isS, u_isT, u_isL, u_isR, u_isD, u_isO, u_isC, q_frIx0, q_frIx1, q_frTup, q_frTy, q_frLen, q_raise0, q_raiseF, q_isi2, q_make, q_fld, q_setF, q_prop, q_meth, q_callO, q_inD, q_dget, q_inS, q_revS, q_revX, q_enumS, q_enum, q_zip, q_rev, q_rng2, q_rng3, q_insert, q_reverse, q_join, q_isTyS, q_isTyL, q_cntB, q_isTyC, q_isE, q_xf, q_ones, q_callE, q_ovO, q_ovC, q_dvD, q_keyS, q_keyI, q_den, kb_NoneType_bool, kb_NoneType_int, kb_NoneType_str, kb_NoneType_tuple, kb_NoneType_list, kb_NoneType_dict, kb_bool_bool, kb_bool_int, kb_bool_str, kb_bool_tuple, kb_bool_list, kb_bool_dict, kb_int_bool, kb_int_int, kb_int_str, kb_int_tuple, kb_int_list, kb_int_dict, kb_str_bool, kb_str_int, kb_str_str, kb_str_tuple, kb_str_list, kb_str_dict, kb_tuple_bool, kb_tuple_int, kb_tuple_str, kb_tuple_tuple, kb_tuple_list, kb_tuple_dict, kb_list_bool, kb_list_int, kb_list_str, kb_list_tuple, kb_list_list, kb_list_dict, kb_dict_bool, kb_dict_int, kb_dict_str, kb_dict_tuple, kb_dict_list, kb_dict_dict, u_cast, q_ixN0, q_ixN1, q_ixN2, q_ixN3, q_ixN4, mput_mput, Option.some.injEq, Dt.lst.injEq, Dt.cel.injEq, Prod.mk.injEq, lk_pl0, lk_pl1, lk_pl2, lk_pl3,  Dt.obj.injEq,  Dt.int.injEq, exists_eq_left', exists_eq_left, exists_and_left, u_mapC, u_mapE,  not_true_eq_false, not_false_eq_true, eq_self, u_size, Nat.reduceLeDiff, Nat.reduceLT, 
    u_set0, u_setS, u_lenC, u_lenN, List.append_nil, u_nilA, u_consA, u_mapS, u_mapN, u_bindS, u_bindN, mput_same,
    true_and, and_true, decide_eq_true_eq, Bool.not_eq_true', decide_eq_false_iff_not, u_notT, u_notF, if_true, if_false, ite_true, ite_false, Bool.false_eq_true, reduceCtorEq, reduceIte, Nat.reduceAdd, $xs,*]))
section
variable {M : Mm} {Q : DQ} {X : DX}
theorem st_loop {x : Dt} {r : Nat} {ks : List Nat} {p : Addr} {st : Mm → Prop} {n : DSt → Mm → Prop} {rr : DQ} {b c : DSt → Mm → Prop} (hr : r ≤ 8) (hst : ∀ M', (∀ b, b ≠ p → M' b = M b) → st M') (hs : ks.sum = r)
    (hn : ∀ M' v z z5, (∀ b, b ≠ p → M' b = M b) → M' p = some (.lst (starts r fun l => lastEnd l 0 ks)) → n [some x, some (.int r), some (.cel p), v, z, z5] M') :
    dForL (dName 4) (dSeq (dAsg (dOp (dAddR false) (dVar 3) (dVar 4)) (dName 3))
    (dFor (dRng2 (dCons (dVar 3) (dCons (dVar 1) dNil))) (dName 5) (dAsg (dVar 3) (dSub (dVar 2) (dVar 5))))) ⟨n, rr, b, c⟩ st (lenD' ks) [some x, some (.int r), some (.cel p), some (.int 0), none, none] (mput M p (.lst (starts r fun _ => 0))) := by
  refine for_map (α := Nat) (fun rest ds' M' => (∀ b, b ≠ p → M' b = M b) ∧ ∃ (pre : List Nat) (z z5 : Option Dt), ks = pre ++ rest ∧ M' p = some (.lst (starts r fun l => lastEnd l 0 pre)) ∧ ds' = [some x, some (.int r), some (.cel p), some (.int (pre.sum : Nat)), z, z5]) ?_ ?_ ks _ _ ⟨fun b hb => mput_ne hb, [], none, none, rfl, mput_same, rfl⟩
  · rintro k rest ds' M' N hN ⟨hfr, pre, z, z5, e, hMp, rfl⟩
    refine ⟨hst _ hfr, ?_⟩
    have hsum : pre.sum + k + rest.sum = r := by rw [← hs, e, List.sum_append, List.sum_cons]; omega
    push_cast []
    rw [← Int.natCast_add]
    refine ⟨⟨by omega, by omega, by omega, by omega⟩, ?_⟩
    refine fill_loop hMp fun M1 z1 hfr1 hM1 => ?_
    refine hN _ _ ⟨fun b hb => (hfr1 b hb).trans (hfr b hb), pre ++ [k], some (.int k), z1, by simp [e], ?_, ?_⟩
    · rw [hM1]
      congr 3
      funext l
      rw [lastEnd_snoc, Nat.zero_add]
    · rw [List.sum_append]; simp
  · rintro ds' M' ⟨hfr, pre, z, z5, e, hMp, rfl⟩
    rw [List.append_nil] at e
    subst e
    exact ⟨hst _ hfr, hn M' _ _ _ hfr hMp⟩
theorem rep_starts {r : Nat} : List.replicate r (Dt.int 0) = starts r fun _ => 0 := by
  unfold starts
  rw [List.map_const', List.length_range]; rfl
theorem p_stretch_starts {x : Dt} {r : Nat} {ks : List Nat} (hr : r ≤ 8) (hx : SeqOf M x (lenD' ks)) (hs : ks.sum = r) (h : ∀ p M', M p = none → (∀ b, b ≠ p → M' b = M b) → M' p = some (.lst (starts r fun l => lastEnd l 0 ks)) → Q (.cel p) M') : f_stretch_starts [x, .int r] M Q X := by
  push_cast [f_stretch_starts, b_stretch_starts]
  refine .inr ?_
  show (-(2 ^ 63) ≤ (r : Int) ∧ (r : Int) < 2 ^ 63 ∧ [Dt.int 0].length * ((r : Int)).toNat ≤ sizeLine ∧ newL true (List.replicate ((r : Int)).toNat [Dt.int 0]).flatten M _)
  have ef : ∀ n : Nat, (List.replicate n [Dt.int 0]).flatten = List.replicate n (Dt.int 0) := fun n => by
    induction n with
    | zero => rfl
    | succ n ih => rw [List.replicate_succ, List.replicate_succ, List.flatten_cons, ih]; rfl
  refine ⟨by omega, by omega, by rw [u_size, Int.toNat_natCast, List.length_singleton]; omega, ?_⟩
  rw [Int.toNat_natCast, ef, rep_starts]
  intro p hp
  push_cast only []
  push_cast only []
  rcases hx with rfl | rfl | ⟨q, rfl, hq⟩
  · push_cast []
    refine st_loop hr (fun _ _ => trivial) hs fun M' v z z5 hfr hM' => ?_
    push_cast []
    exact h p M' hp hfr hM'
  · push_cast []
    refine st_loop hr (fun _ _ => trivial) hs fun M' v z z5 hfr hM' => ?_
    push_cast []
    exact h p M' hp hfr hM'
  · have hne : q ≠ p := ne_new hq hp
    have hq2 : mput M p (.lst (starts r fun _ => 0)) q = some (.lst (lenD' ks)) := (mput_ne hne).trans hq
    push_cast [hq2]
    refine st_loop hr (fun M' hfr => by rw [hfr q hne, hq]) hs fun M' v z z5 hfr hM' => ?_
    push_cast []
    exact h p M' hp hfr hM'
end

end LK
set_option Elab.async false
set_option linter.all false
set_option maxRecDepth 100000
set_option maxHeartbeats 1000000
namespace LK
open PySem PySem.Spec PyProof.Rows L2 DL
local macro_rules | `(tactic| push_cast [$xs,*]) => `(tactic| repeat (first
  | with_reducible refine hold_i ?_
  | simp only [q_sp, q_st_c, q_st_n, q_st_0, q_seq, q_next, q_drop, q_ret, q_retN, q_ifS, q_break, q_cont, q_asg, q_par, q_name, q_gnil, q_gcons, q_gtup, q_for, q_var0, q_varS, q_c, q_nil, q_cons, q_tup, q_lst, q_newF, q_newT, q_op, q_test,
    q_and, q_or, q_not, q_andV, q_orV, q_notV, q_if, q_call, q_callK, q_cb, q_bm, q_bm0, q_frz, q_frzC, q_neg, q_sub, q_subC, q_lc, q_lc2, q_dc, q_yes, q_wipe0, q_wipeS, q_sl, q_noPart, q_part, q_cutS, q_cutT, q_cutL, q_cutC, q_rvC, q_rvL,
    q_lvC, q_lvL, q_clC, q_sqT, q_sqL, q_sqC, q_addI, q_addS, q_addT, q_addL, q_subI, q_mulI, q_divI, q_modI, q_powI, q_cmpI, q_eqI, q_neI, q_eqStr, q_isN, q_notN, q_ixT, q_ixL, q_ixC, q_ixS, q_at0, q_at1, q_at2, q_at3, q_at4, q_at5, q_at6, q_at7, q_at8, q_at9,
    q_len, q_lenT, q_lenL, q_lenC, q_lenS, q_sum, q_sumA, q_intI, q_intS, q_str, q_abs, q_max, q_min, q_list, q_tuple, q_isi, q_tyN, q_tyB, q_tyI, q_tyS, q_tyT, q_tyL, q_tyC, q_append, q_extend, q_rng1, q_sqi, u_isN, u_isB, u_isI, u_isS, u_isT, u_isL, u_isR, u_isD, u_isO, u_isC, q_frIx0, q_frIx1, q_frTup, q_frTy, q_frLen, q_raise0, q_raiseF, q_isi2, q_make, q_fld, q_setF, q_prop, q_meth, q_callO, q_inD, q_dget, q_inS, q_revS, q_revX, q_enumS, q_enum, q_zip, q_rev, q_rng2, q_rng3, q_insert, q_reverse, q_join, q_isTyS, q_isTyL, q_cntB, q_isTyC, q_isE, q_xf, q_ones, q_callE, q_ovO, q_ovC, q_dvD, q_keyS, q_keyI, q_den, kb_NoneType_bool, kb_NoneType_int, kb_NoneType_str, kb_NoneType_tuple, kb_NoneType_list, kb_NoneType_dict, kb_bool_bool, kb_bool_int, kb_bool_str, kb_bool_tuple, kb_bool_list, kb_bool_dict, kb_int_bool, kb_int_int, kb_int_str, kb_int_tuple, kb_int_list, kb_int_dict, kb_str_bool, kb_str_int, kb_str_str, kb_str_tuple, kb_str_list, kb_str_dict, kb_tuple_bool, kb_tuple_int, kb_tuple_str, kb_tuple_tuple, kb_tuple_list, kb_tuple_dict, kb_list_bool, kb_list_int, kb_list_str, kb_list_tuple, kb_list_list, kb_list_dict, kb_dict_bool, kb_dict_int, kb_dict_str, kb_dict_tuple, kb_dict_list, kb_dict_dict, u_cast, q_ixN0, q_ixN1, q_ixN2, q_ixN3, q_ixN4, mput_mput, Option.some.injEq, Dt.lst.injEq, Dt.cel.injEq, Prod.mk.injEq, lk_pl0, lk_pl1, lk_pl2, lk_pl3,  Dt.obj.injEq,  Dt.int.injEq, exists_eq_left', exists_eq_left, exists_and_left, u_mapC, u_mapE,  not_true_eq_false, not_false_eq_true, eq_self, u_size, Nat.reduceLeDiff, Nat.reduceLT, 
    u_set0, u_setS, u_lenC, u_lenN, List.append_nil, u_nilA, u_consA, u_mapS, u_mapN, u_bindS, u_bindN, mput_same,
    true_and, and_true, decide_eq_true_eq, Bool.not_eq_true', decide_eq_false_iff_not, u_notT, u_notF, if_true, if_false, ite_true, ite_false, Bool.false_eq_true, reduceCtorEq, reduceIte, Nat.reduceAdd, $xs,*]))
local macro_rules | `(tactic| push_cast only [$xs,*]) => `(tactic| (try with_reducible refine hold_i ?_); (simp only [q_sp, q_st_c, q_st_n, q_st_0, q_seq, q_next, q_drop, q_ret, q_retN, q_ifS, q_break, q_cont, q_asg, q_par, q_name, q_gnil, q_gcons, q_gtup, q_for, q_var0, q_varS, q_c, q_nil, q_cons, q_tup, q_lst, q_newF, q_newT, q_op, q_test,
    q_and, q_or, q_not, q_andV, q_orV, q_notV, q_if, q_call, q_callK, q_cb, q_bm, q_bm0, q_frz, q_frzC, q_neg, q_sub, q_subC, q_lc, q_lc2, q_dc, q_yes, q_wipe0, q_wipeS, q_sl, q_noPart, q_part, q_cutS, q_cutT, q_cutL, q_cutC, q_rvC, q_rvL,
    q_lvC, q_lvL, q_clC, q_sqT, q_sqL, q_sqC, q_addI, q_addS, q_addT, q_addL, q_subI, q_mulI, q_divI, q_modI, q_powI, q_cmpI, q_eqI, q_neI, q_eqStr, q_isN, q_notN, q_ixT, q_ixL, q_ixC, q_ixS, q_at0, q_at1, q_at2, q_at3, q_at4, q_at5, q_at6, q_at7, q_at8, q_at9,
    q_len, q_lenT, q_lenL, q_lenC, q_lenS, q_sum, q_sumA, q_intI, q_intS, q_str, q_abs, q_max, q_min, q_list, q_tuple, q_isi, q_tyN, q_tyB, q_tyI, q_tyS, q_tyT, q_tyL, q_tyC, q_append, q_extend, q_rng1, q_sqi, u_isN, u_isB, u_isI, u_isS, u_isT, u_isL, u_isR, u_isD, u_isO, u_isC, q_frIx0, q_frIx1, q_frTup, q_frTy, q_frLen, q_raise0, q_raiseF, q_isi2, q_make, q_fld, q_setF, q_prop, q_meth, q_callO, q_inD, q_dget, q_inS, q_revS, q_revX, q_enumS, q_enum, q_zip, q_rev, q_rng2, q_rng3, q_insert, q_reverse, q_join, q_isTyS, q_isTyL, q_cntB, q_isTyC, q_isE, q_xf, q_ones, q_callE, q_ovO, q_ovC, q_dvD, q_keyS, q_keyI, q_den, kb_NoneType_bool, kb_NoneType_int, kb_NoneType_str, kb_NoneType_tuple, kb_NoneType_list, kb_NoneType_dict, kb_bool_bool, kb_bool_int, kb_bool_str, kb_bool_tuple, kb_bool_list, kb_bool_dict, kb_int_bool, kb_int_int, kb_int_str, kb_int_tuple, kb_int_list, kb_int_dict, kb_str_bool, kb_str_int, kb_str_str, kb_str_tuple, kb_str_list, kb_str_dict, kb_tuple_bool, kb_tuple_int, kb_tuple_str, kb_tuple_tuple, kb_tuple_list, kb_tuple_dict, kb_list_bool, kb_list_int, kb_list_str, kb_list_tuple, kb_list_list, kb_list_dict, kb_dict_bool, kb_dict_int, kb_dict_str, kb_dict_tuple, kb_dict_list, kb_dict_dict, u_cast, q_ixN0, q_ixN1, q_ixN2, q_ixN3, q_ixN4, mput_mput, Option.some.injEq, Dt.lst.injEq, Dt.cel.injEq, Prod.mk.injEq, lk_pl0, lk_pl1, lk_pl2, lk_pl3,  Dt.obj.injEq,  Dt.int.injEq, exists_eq_left', exists_eq_left, exists_and_left, u_mapC, u_mapE,  not_true_eq_false, not_false_eq_true, eq_self, u_size, Nat.reduceLeDiff, Nat.reduceLT, 
    u_set0, u_setS, u_lenC, u_lenN, List.append_nil, u_nilA, u_consA, u_mapS, u_mapN, u_bindS, u_bindN, mput_same,
    true_and, and_true, decide_eq_true_eq, Bool.not_eq_true', decide_eq_false_iff_not, u_notT, u_notF, if_true, if_false, ite_true, ite_false, Bool.false_eq_true, reduceCtorEq, reduceIte, Nat.reduceAdd, $xs,*]))
section
variable {M : Mm} {Q : DQ} {X : DX}
def tailAt (ks t : List Nat) : List Nat := t.drop (lastEnd t.length 0 ks)
def anewS (w r : Nat) (S : List (List Rat)) (ks : List Nat) : List (List Rat) := (begs w r).map fun t => S.getD (idx w (tailAt ks t)) []
theorem tailAt_begs {w r : Nat} {ks t : List Nat} (ht : t ∈ begs w r) : tailAt ks t ∈ begs w r := by
  obtain ⟨h1, h2⟩ := begs_mem.mp ht
  refine begs_mem.mpr ⟨?_, fun d hd => h2 d (List.mem_of_mem_drop hd)⟩
  unfold tailAt
  rw [List.length_drop]; omega
theorem getD_begs {n w r : Nat} {S : List (List Rat)} (hS : Shs n w r S) {t : List Nat} (ht : t ∈ begs w r) : S[idx w t]? = some (S.getD (idx w t) []) ∧ Shr n w (S.getD (idx w t) []) := by
  have h2 : idx w t < S.length := by rw [hS.len]; exact (begs_at ht).2
  have e1 := List.getElem?_eq_getElem h2
  rw [List.getD_eq_getElem?_getD, e1]
  exact ⟨rfl, hS.each _ (List.getElem_mem h2)⟩
theorem anewS_shs {n w r : Nat} {S : List (List Rat)} {ks : List Nat} (hS : Shs n w r S) : Shs n w r (anewS w r S ks) := by
  refine ⟨?_, fun s hs => ?_⟩
  · unfold anewS
    rw [List.length_map, begs_len]
  · obtain ⟨t, ht, rfl⟩ := List.mem_map.mp hs
    exact (getD_begs hS (tailAt_begs ht)).2
theorem rel_self {α : Type} {R : α → Dt → Prop} {f : α → Dt} : ∀ {as : List α}, (∀ a ∈ as, R a (f a)) → Rel2 R as (as.map f)
  | [], _ => .nil
  | a :: as, h => .cons (h a List.mem_cons_self) (rel_self fun b hb => h b (List.mem_cons_of_mem _ hb))
theorem p_anew {n w r : Nat} {S : List (List Rat)} {x : Dt} {ks : List Nat} (hw : W5 w) (hr : r ≤ mostR w) (hS : Shs n w r S) (hn : n ≤ 400) (hx : SeqOf M x (lenD' ks)) (hL : Lens r ks) (h : ∀ M', Kp M M' → Q (planD w r (anewS w r S ks)) M') : f_anew [planD w r S, x] M Q X := by
  have hsm := small hw hr
  have h8 := mostR_le (w := w)
  push_cast [f_anew, b_anew]
  refine ⟨isPlD, up_of (p_Plan_rounds ?_)⟩
  push_cast []
  refine up_of (p_check_lengths hx hL ?_)
  push_cast []
  refine ⟨isPlD, up_of (p_Plan_rounds ?_)⟩
  push_cast []
  refine up_of (p_stretch_starts (by omega) hx hL.sum fun p M1 hp hfr hM1 => ?_)
  push_cast []
  refine ⟨isPlD, up_of (p_Plan_rounds ?_)⟩
  push_cast []
  refine ⟨isPlD, up_of (p_Plan_width ?_)⟩
  push_cast []
  refine up_of (p_beginnings_of hw hr ?_)
  push_cast []
  refine lc_map_mem (α := List Nat) (fun t => shD (S.getD (idx w (tailAt ks t)) [])) trivial (begs w r) [] (fun t N ht hN => ?_) (by rw [u_size, begs_len, List.length_nil]; omega) ?_
  · have hl := (begs_mem.mp ht).1
    push_cast [hM1, dg_len, starts_len]
    refine ⟨⟨_, rfl⟩, ?_⟩
    rw [if_pos (by omega)]
    push_cast [atI_of (starts_at (f := fun l => lastEnd l 0 ks) hl)]
    refine ⟨by omega, ?_⟩
    rw [dg_drop]
    exact up_of (p_Plan_call (tailAt_begs ht) (getD_begs hS (tailAt_begs ht)).1 hN)
  · have eS : (begs w r).map (fun t => shD (S.getD (idx w (tailAt ks t)) [])) = (anewS w r S ks).map shD := by
      unfold anewS
      rw [List.map_map]; rfl
    have hA := anewS_shs (ks := ks) hS
    push_cast [eS]
    refine ⟨isPlD, up_of (p_Plan_width ?_)⟩
    push_cast []
    refine ⟨isPlD, up_of (p_Plan_rounds ?_)⟩
    push_cast []
    intro a ha
    refine up_of (p_Plan_init hw hr hA hn (rel_self fun s hs => ⟨frs s, .inr rfl, ?_⟩) mput_same fun M5 hfr5 hM5 => ?_)
    · unfold DL.frs
      exact rel_self fun q hq => num_fr ((hA.each s hs).sz q hq) (by omega)
    · push_cast [hM5]
      refine ⟨_, rfl, ?_⟩
      rw [mdel_back (d := .non) ha hfr5 fun b hb => mput_ne hb]
      exact h M1 fun b d hb => by rw [hfr b (ne_new hb hp), hb]
end

end LK
set_option Elab.async false
set_option linter.all false
set_option maxRecDepth 100000
set_option maxHeartbeats 1000000
namespace LK
open PySem PySem.Spec PyProof.Rows L2 DL
local macro_rules | `(tactic| push_cast [$xs,*]) => `(tactic| repeat (first
  | with_reducible refine hold_i ?_
  | simp only [q_sp, q_st_c, q_st_n, q_st_0, q_seq, q_next, q_drop, q_ret, q_retN, q_ifS, q_break, q_cont, q_asg, q_par, q_name, q_gnil, q_gcons, q_gtup, q_for, q_var0, q_varS, q_c, q_nil, q_cons, q_tup, q_lst, q_newF, q_newT, q_op, q_test,
    q_and, q_or, q_not, q_andV, q_orV, q_notV, q_if, q_call, q_callK, q_cb, q_bm, q_bm0, q_frz, q_frzC, q_neg, q_sub, q_subC, q_lc, q_lc2, q_dc, q_yes, q_wipe0, q_wipeS, q_sl, q_noPart, q_part, q_cutS, q_cutT, q_cutL, q_cutC, q_rvC, q_rvL,
    q_lvC, q_lvL, q_clC, q_sqT, q_sqL, q_sqC, q_addI, q_addS, q_addT, q_addL, q_subI, q_mulI, q_divI, q_modI, q_powI, q_cmpI, q_eqI, q_neI, q_eqStr, q_isN, q_notN, q_ixT, q_ixL, q_ixC, q_ixS, q_at0, q_at1, q_at2, q_at3, q_at4, q_at5, q_at6, q_at7, q_at8, q_at9,
    q_len, q_lenT, q_lenL, q_lenC, q_lenS, q_sum, q_sumA, q_intI, q_intS, q_str, q_abs, q_max, q_min, q_list, q_tuple, q_isi, q_tyN, q_tyB, q_tyI, q_tyS, q_tyT, q_tyL, q_tyC, q_append, q_extend, q_rng1, q_sqi, u_isN, u_isB, u_isI, u_isS, u_isT, u_isL, u_isR, u_isD, u_isO, u_isC, q_frIx0, q_frIx1, q_frTup, q_frTy, q_frLen, q_raise0, q_raiseF, q_isi2, q_make, q_fld, q_setF, q_prop, q_meth, q_callO, q_inD, q_dget, q_inS, q_revS, q_revX, q_enumS, q_enum, q_zip, q_rev, q_rng2, q_rng3, q_insert, q_reverse, q_join, q_isTyS, q_isTyL, q_cntB, q_isTyC, q_isE, q_xf, q_ones, q_callE, q_ovO, q_ovC, q_dvD, q_keyS, q_keyI, q_den, kb_NoneType_bool, kb_NoneType_int, kb_NoneType_str, kb_NoneType_tuple, kb_NoneType_list, kb_NoneType_dict, kb_bool_bool, kb_bool_int, kb_bool_str, kb_bool_tuple, kb_bool_list, kb_bool_dict, kb_int_bool, kb_int_int, kb_int_str, kb_int_tuple, kb_int_list, kb_int_dict, kb_str_bool, kb_str_int, kb_str_str, kb_str_tuple, kb_str_list, kb_str_dict, kb_tuple_bool, kb_tuple_int, kb_tuple_str, kb_tuple_tuple, kb_tuple_list, kb_tuple_dict, kb_list_bool, kb_list_int, kb_list_str, kb_list_tuple, kb_list_list, kb_list_dict, kb_dict_bool, kb_dict_int, kb_dict_str, kb_dict_tuple, kb_dict_list, kb_dict_dict, u_cast, q_ixN0, q_ixN1, q_ixN2, q_ixN3, q_ixN4, mput_mput, Option.some.injEq, Dt.lst.injEq, Dt.cel.injEq, Prod.mk.injEq, lk_pl0, lk_pl1, lk_pl2, lk_pl3,  Dt.obj.injEq,  Dt.int.injEq, exists_eq_left', exists_eq_left, exists_and_left, u_mapC, u_mapE,  not_true_eq_false, not_false_eq_true, eq_self, u_size, Nat.reduceLeDiff, Nat.reduceLT, 
    u_set0, u_setS, u_lenC, u_lenN, List.append_nil, u_nilA, u_consA, u_mapS, u_mapN, u_bindS, u_bindN, mput_same,
    true_and, and_true, decide_eq_true_eq, Bool.not_eq_true', decide_eq_false_iff_not, u_notT, u_notF, if_true, if_false, ite_true, ite_false, Bool.false_eq_true, reduceCtorEq, reduceIte, Nat.reduceAdd, $xs,*]))
local macro_rules | `(tactic| push_cast only [$xs,*]) => `(tactic| (try with_reducible refine hold_i ?_); (simp only [q_sp, q_st_c, q_st_n, q_st_0, q_seq, q_next, q_drop, q_ret, q_retN, q_ifS, q_break, q_cont, q_asg, q_par, q_name, q_gnil, q_gcons, q_gtup, q_for, q_var0, q_varS, q_c, q_nil, q_cons, q_tup, q_lst, q_newF, q_newT, q_op, q_test,
    q_and, q_or, q_not, q_andV, q_orV, q_notV, q_if, q_call, q_callK, q_cb, q_bm, q_bm0, q_frz, q_frzC, q_neg, q_sub, q_subC, q_lc, q_lc2, q_dc, q_yes, q_wipe0, q_wipeS, q_sl, q_noPart, q_part, q_cutS, q_cutT, q_cutL, q_cutC, q_rvC, q_rvL,
    q_lvC, q_lvL, q_clC, q_sqT, q_sqL, q_sqC, q_addI, q_addS, q_addT, q_addL, q_subI, q_mulI, q_divI, q_modI, q_powI, q_cmpI, q_eqI, q_neI, q_eqStr, q_isN, q_notN, q_ixT, q_ixL, q_ixC, q_ixS, q_at0, q_at1, q_at2, q_at3, q_at4, q_at5, q_at6, q_at7, q_at8, q_at9,
    q_len, q_lenT, q_lenL, q_lenC, q_lenS, q_sum, q_sumA, q_intI, q_intS, q_str, q_abs, q_max, q_min, q_list, q_tuple, q_isi, q_tyN, q_tyB, q_tyI, q_tyS, q_tyT, q_tyL, q_tyC, q_append, q_extend, q_rng1, q_sqi, u_isN, u_isB, u_isI, u_isS, u_isT, u_isL, u_isR, u_isD, u_isO, u_isC, q_frIx0, q_frIx1, q_frTup, q_frTy, q_frLen, q_raise0, q_raiseF, q_isi2, q_make, q_fld, q_setF, q_prop, q_meth, q_callO, q_inD, q_dget, q_inS, q_revS, q_revX, q_enumS, q_enum, q_zip, q_rev, q_rng2, q_rng3, q_insert, q_reverse, q_join, q_isTyS, q_isTyL, q_cntB, q_isTyC, q_isE, q_xf, q_ones, q_callE, q_ovO, q_ovC, q_dvD, q_keyS, q_keyI, q_den, kb_NoneType_bool, kb_NoneType_int, kb_NoneType_str, kb_NoneType_tuple, kb_NoneType_list, kb_NoneType_dict, kb_bool_bool, kb_bool_int, kb_bool_str, kb_bool_tuple, kb_bool_list, kb_bool_dict, kb_int_bool, kb_int_int, kb_int_str, kb_int_tuple, kb_int_list, kb_int_dict, kb_str_bool, kb_str_int, kb_str_str, kb_str_tuple, kb_str_list, kb_str_dict, kb_tuple_bool, kb_tuple_int, kb_tuple_str, kb_tuple_tuple, kb_tuple_list, kb_tuple_dict, kb_list_bool, kb_list_int, kb_list_str, kb_list_tuple, kb_list_list, kb_list_dict, kb_dict_bool, kb_dict_int, kb_dict_str, kb_dict_tuple, kb_dict_list, kb_dict_dict, u_cast, q_ixN0, q_ixN1, q_ixN2, q_ixN3, q_ixN4, mput_mput, Option.some.injEq, Dt.lst.injEq, Dt.cel.injEq, Prod.mk.injEq, lk_pl0, lk_pl1, lk_pl2, lk_pl3,  Dt.obj.injEq,  Dt.int.injEq, exists_eq_left', exists_eq_left, exists_and_left, u_mapC, u_mapE,  not_true_eq_false, not_false_eq_true, eq_self, u_size, Nat.reduceLeDiff, Nat.reduceLT, 
    u_set0, u_setS, u_lenC, u_lenN, List.append_nil, u_nilA, u_consA, u_mapS, u_mapN, u_bindS, u_bindN, mput_same,
    true_and, and_true, decide_eq_true_eq, Bool.not_eq_true', decide_eq_false_iff_not, u_notT, u_notF, if_true, if_false, ite_true, ite_false, Bool.false_eq_true, reduceCtorEq, reduceIte, Nat.reduceAdd, $xs,*]))
section
variable {M : Mm} {Q : DQ} {X : DX}
theorem lastEnd_cons {l e k : Nat} {ks : List Nat} : lastEnd l e (k :: ks) = if l < e + k then e else lastEnd l (e + k) ks := rfl
theorem p_tail {t ks : List Nat} (hl : t.length ≤ 8) (hk : ∀ k ∈ ks, k ≤ 8) (h : Q (.str (dg (tailAt ks t))) M) : f_law_tail [.str (dg t), .lst (lenD' ks)] M Q X := by
  push_cast [f_law_tail, b_law_tail]
  refine for_map (α := Nat) (fun rest ds' M' => M' = M ∧ (∀ k ∈ rest, k ≤ 8) ∧ ∃ (e : Nat) (z : Option Dt), e ≤ t.length ∧ lastEnd t.length 0 ks = lastEnd t.length e rest ∧ ds' = [some (.str (dg t)), some (.lst (lenD' ks)), some (.int e), z]) ?_ ?_ ks _ _ ⟨rfl, hk, 0, none, Nat.zero_le _, rfl, rfl⟩
  · rintro k rest ds' M' N hN ⟨rfl, hkr, e, z, he, hle, rfl⟩
    refine ⟨trivial, ?_⟩
    have hk8 := hkr k List.mem_cons_self
    rw [lastEnd_cons] at hle
    push_cast [dg_len]
    rw [if_pos (by omega)]
    push_cast []
    by_cases hlt : t.length < e + k
    · rw [if_pos hlt] at hle
      have e1 : tailAt ks t = t.drop e := by unfold tailAt; rw [hle]
      rw [if_pos (by omega)]
      push_cast []
      rw [dg_drop, ← e1]
      exact ⟨by omega, h⟩
    · rw [if_neg hlt] at hle
      rw [if_neg (by omega)]
      push_cast []
      refine hN _ _ ⟨rfl, fun x hx => hkr x (List.mem_cons_of_mem _ hx), e + k, some (.int k), by omega, hle, rfl⟩
  · rintro ds' M' ⟨rfl, hkr, e, z, he, hle, rfl⟩
    refine ⟨trivial, ?_⟩
    have e1 : tailAt ks t = t.drop e := by unfold tailAt; rw [hle]; rfl
    push_cast []
    rw [dg_drop, ← e1]
    exact ⟨by rw [dg_len]; omega, h⟩
theorem p_anew_mm {w r : Nat} {S : List (List Rat)} {x : Dt} {ks : List Nat} (hx : SeqOf M x (lenD' ks)) (hk : ∀ k ∈ ks, k ≤ 8) (hsn : ks.sum ≠ r) (h : X "Mismatch" [] M) : f_anew [planD w r S, x] M Q X := by
  push_cast [f_anew, b_anew]
  refine ⟨isPlD, up_of (p_Plan_rounds ?_)⟩
  push_cast []
  exact up_of (p_check_lengths_mm hx hk hsn h)
theorem p_anew_bc {w r : Nat} {S : List (List Rat)} {x bad : Dt} {ks : List Nat} {rest : List Dt} (hx : SeqOf M x (lenD' ks ++ bad :: rest)) (hk : ∀ k ∈ ks, k ≤ 8) (hb : BadC 0 8 bad) (h : X "BadCount" [("high", .int 8), ("low", .int 0), ("found", bad)] M) : f_anew [planD w r S, x] M Q X := by
  push_cast [f_anew, b_anew]
  refine ⟨isPlD, up_of (p_Plan_rounds ?_)⟩
  push_cast []
  exact up_of (p_check_lengths_bc hx hk hb h)
end

end LK
set_option Elab.async false
set_option linter.all false
set_option maxRecDepth 100000
set_option maxHeartbeats 1000000
namespace LK
open PySem PySem.Spec PyProof.Rows L2 DL
local macro_rules | `(tactic| push_cast [$xs,*]) => `(tactic| repeat (first
  | with_reducible refine hold_i ?_
  | simp only [q_sp, q_st_c, q_st_n, q_st_0, q_seq, q_next, q_drop, q_ret, q_retN, q_ifS, q_break, q_cont, q_asg, q_par, q_name, q_gnil, q_gcons, q_gtup, q_for, q_var0, q_varS, q_c, q_nil, q_cons, q_tup, q_lst, q_newF, q_newT, q_op, q_test,
    q_and, q_or, q_not, q_andV, q_orV, q_notV, q_if, q_call, q_callK, q_cb, q_bm, q_bm0, q_frz, q_frzC, q_neg, q_sub, q_subC, q_lc, q_lc2, q_dc, q_yes, q_wipe0, q_wipeS, q_sl, q_noPart, q_part, q_cutS, q_cutT, q_cutL, q_cutC, q_rvC, q_rvL,
    q_lvC, q_lvL, q_clC, q_sqT, q_sqL, q_sqC, q_addI, q_addS, q_addT, q_addL, q_subI, q_mulI, q_divI, q_modI, q_powI, q_cmpI, q_eqI, q_neI, q_eqStr, q_isN, q_notN, q_ixT, q_ixL, q_ixC, q_ixS, q_at0, q_at1, q_at2, q_at3, q_at4, q_at5, q_at6, q_at7, q_at8, q_at9,
    q_len, q_lenT, q_lenL, q_lenC, q_lenS, q_sum, q_sumA, q_intI, q_intS, q_str, q_abs, q_max, q_min, q_list, q_tuple, q_isi, q_tyN, q_tyB, q_tyI, q_tyS, q_tyT, q_tyL, q_tyC, q_append, q_extend, q_rng1, q_sqi, u_isN, u_isB, u_isI, u_isS, u_isT, u_isL, u_isR, u_isD, u_isO, u_isC, q_frIx0, q_frIx1, q_frTup, q_frTy, q_frLen, q_raise0, q_raiseF, q_isi2, q_make, q_fld, q_setF, q_prop, q_meth, q_callO, q_inD, q_dget, q_inS, q_revS, q_revX, q_enumS, q_enum, q_zip, q_rev, q_rng2, q_rng3, q_insert, q_reverse, q_join, q_isTyS, q_isTyL, q_cntB, q_isTyC, q_isE, q_xf, q_ones, q_callE, q_ovO, q_ovC, q_dvD, q_keyS, q_keyI, q_den, kb_NoneType_bool, kb_NoneType_int, kb_NoneType_str, kb_NoneType_tuple, kb_NoneType_list, kb_NoneType_dict, kb_bool_bool, kb_bool_int, kb_bool_str, kb_bool_tuple, kb_bool_list, kb_bool_dict, kb_int_bool, kb_int_int, kb_int_str, kb_int_tuple, kb_int_list, kb_int_dict, kb_str_bool, kb_str_int, kb_str_str, kb_str_tuple, kb_str_list, kb_str_dict, kb_tuple_bool, kb_tuple_int, kb_tuple_str, kb_tuple_tuple, kb_tuple_list, kb_tuple_dict, kb_list_bool, kb_list_int, kb_list_str, kb_list_tuple, kb_list_list, kb_list_dict, kb_dict_bool, kb_dict_int, kb_dict_str, kb_dict_tuple, kb_dict_list, kb_dict_dict, u_cast, q_ixN0, q_ixN1, q_ixN2, q_ixN3, q_ixN4, mput_mput, Option.some.injEq, Dt.lst.injEq, Dt.cel.injEq, Prod.mk.injEq, lk_pl0, lk_pl1, lk_pl2, lk_pl3,  Dt.obj.injEq,  Dt.int.injEq, exists_eq_left', exists_eq_left, exists_and_left, u_mapC, u_mapE,  not_true_eq_false, not_false_eq_true, eq_self, u_size, Nat.reduceLeDiff, Nat.reduceLT, 
    u_set0, u_setS, u_lenC, u_lenN, List.append_nil, u_nilA, u_consA, u_mapS, u_mapN, u_bindS, u_bindN, mput_same,
    true_and, and_true, decide_eq_true_eq, Bool.not_eq_true', decide_eq_false_iff_not, u_notT, u_notF, if_true, if_false, ite_true, ite_false, Bool.false_eq_true, reduceCtorEq, reduceIte, Nat.reduceAdd, $xs,*]))
local macro_rules | `(tactic| push_cast only [$xs,*]) => `(tactic| (try with_reducible refine hold_i ?_); (simp only [q_sp, q_st_c, q_st_n, q_st_0, q_seq, q_next, q_drop, q_ret, q_retN, q_ifS, q_break, q_cont, q_asg, q_par, q_name, q_gnil, q_gcons, q_gtup, q_for, q_var0, q_varS, q_c, q_nil, q_cons, q_tup, q_lst, q_newF, q_newT, q_op, q_test,
    q_and, q_or, q_not, q_andV, q_orV, q_notV, q_if, q_call, q_callK, q_cb, q_bm, q_bm0, q_frz, q_frzC, q_neg, q_sub, q_subC, q_lc, q_lc2, q_dc, q_yes, q_wipe0, q_wipeS, q_sl, q_noPart, q_part, q_cutS, q_cutT, q_cutL, q_cutC, q_rvC, q_rvL,
    q_lvC, q_lvL, q_clC, q_sqT, q_sqL, q_sqC, q_addI, q_addS, q_addT, q_addL, q_subI, q_mulI, q_divI, q_modI, q_powI, q_cmpI, q_eqI, q_neI, q_eqStr, q_isN, q_notN, q_ixT, q_ixL, q_ixC, q_ixS, q_at0, q_at1, q_at2, q_at3, q_at4, q_at5, q_at6, q_at7, q_at8, q_at9,
    q_len, q_lenT, q_lenL, q_lenC, q_lenS, q_sum, q_sumA, q_intI, q_intS, q_str, q_abs, q_max, q_min, q_list, q_tuple, q_isi, q_tyN, q_tyB, q_tyI, q_tyS, q_tyT, q_tyL, q_tyC, q_append, q_extend, q_rng1, q_sqi, u_isN, u_isB, u_isI, u_isS, u_isT, u_isL, u_isR, u_isD, u_isO, u_isC, q_frIx0, q_frIx1, q_frTup, q_frTy, q_frLen, q_raise0, q_raiseF, q_isi2, q_make, q_fld, q_setF, q_prop, q_meth, q_callO, q_inD, q_dget, q_inS, q_revS, q_revX, q_enumS, q_enum, q_zip, q_rev, q_rng2, q_rng3, q_insert, q_reverse, q_join, q_isTyS, q_isTyL, q_cntB, q_isTyC, q_isE, q_xf, q_ones, q_callE, q_ovO, q_ovC, q_dvD, q_keyS, q_keyI, q_den, kb_NoneType_bool, kb_NoneType_int, kb_NoneType_str, kb_NoneType_tuple, kb_NoneType_list, kb_NoneType_dict, kb_bool_bool, kb_bool_int, kb_bool_str, kb_bool_tuple, kb_bool_list, kb_bool_dict, kb_int_bool, kb_int_int, kb_int_str, kb_int_tuple, kb_int_list, kb_int_dict, kb_str_bool, kb_str_int, kb_str_str, kb_str_tuple, kb_str_list, kb_str_dict, kb_tuple_bool, kb_tuple_int, kb_tuple_str, kb_tuple_tuple, kb_tuple_list, kb_tuple_dict, kb_list_bool, kb_list_int, kb_list_str, kb_list_tuple, kb_list_list, kb_list_dict, kb_dict_bool, kb_dict_int, kb_dict_str, kb_dict_tuple, kb_dict_list, kb_dict_dict, u_cast, q_ixN0, q_ixN1, q_ixN2, q_ixN3, q_ixN4, mput_mput, Option.some.injEq, Dt.lst.injEq, Dt.cel.injEq, Prod.mk.injEq, lk_pl0, lk_pl1, lk_pl2, lk_pl3,  Dt.obj.injEq,  Dt.int.injEq, exists_eq_left', exists_eq_left, exists_and_left, u_mapC, u_mapE,  not_true_eq_false, not_false_eq_true, eq_self, u_size, Nat.reduceLeDiff, Nat.reduceLT, 
    u_set0, u_setS, u_lenC, u_lenN, List.append_nil, u_nilA, u_consA, u_mapS, u_mapN, u_bindS, u_bindN, mput_same,
    true_and, and_true, decide_eq_true_eq, Bool.not_eq_true', decide_eq_false_iff_not, u_notT, u_notF, if_true, if_false, ite_true, ite_false, Bool.false_eq_true, reduceCtorEq, reduceIte, Nat.reduceAdd, $xs,*]))
section
variable {M : Mm} {Q : DQ} {X : DX}
theorem shF_at {w i : Nat} {S : List (List Rat)} {t : List Nat} : (shF w S 0 t)[i]? = t[i]?.map fun d => shAt S (idx w (t.take i)) d := by
  have := shF_enum (w := w) (S := S) t []
  simp only [List.nil_append, List.length_nil] at this
  have e : idx w [] = 0 := rfl
  rw [e] at this
  rw [← this, List.getElem?_map, List.getElem?_zipIdx]
  cases t[i]? <;> simp
theorem lastEnd_in {i k : Nat} {rest : List Nat} : ∀ (pre : List Nat) (e : Nat), e + pre.sum ≤ i → i < e + pre.sum + k → lastEnd i e (pre ++ k :: rest) = e + pre.sum
  | [], e, _, h2 => by
    rw [List.nil_append, lastEnd_cons]
    have e0 : e + ([] : List Nat).sum = e := rfl
    rw [e0] at h2 ⊢
    rw [if_pos h2]
  | x :: pre, e, h1, h2 => by
    rw [List.sum_cons] at h1 h2 ⊢
    rw [List.cons_append, lastEnd_cons, if_neg (by omega), lastEnd_in pre (e + x) (by omega) (by omega)]
    omega
theorem anew_at {w r d : Nat} {S : List (List Rat)} {ks t : List Nat} (ht : t ∈ begs w r) : shAt (anewS w r S ks) (idx w t) d = shAt S (idx w (tailAt ks t)) d := by
  have h := (begs_at ht).1
  unfold shAt anewS
  rw [List.getD_eq_getElem?_getD (l := (begs w r).map _), List.getElem?_map, h]
  rfl
theorem piece_at {w r k : Nat} {S : List (List Rat)} {pre rest t : List Nat} (ht : Dig w t) (hl : t.length = r) (hs : (pre ++ k :: rest).sum = r) : ((shF w (anewS w r S (pre ++ k :: rest)) 0 t).drop pre.sum).take k = shF w S 0 ((t.drop pre.sum).take k) := by
  rw [List.sum_append, List.sum_cons] at hs
  apply List.ext_getElem?
  intro j
  rw [List.getElem?_take, shF_at, List.getElem?_take, List.getElem?_drop, List.getElem?_drop, shF_at]
  by_cases hj : j < k
  · rw [if_pos hj, if_pos hj]
    have hi : pre.sum + j < t.length := by omega
    rw [List.getElem?_eq_getElem hi]
    have hb : t.take (pre.sum + j) ∈ begs w r := begs_mem.mpr ⟨by rw [List.length_take]; omega, ht.take⟩
    show some (shAt (anewS w r S (pre ++ k :: rest)) (idx w (t.take (pre.sum + j))) t[pre.sum + j]) = some (shAt S (idx w (((t.drop pre.sum).take k).take j)) t[pre.sum + j])
    rw [anew_at hb]
    have e1 : tailAt (pre ++ k :: rest) (t.take (pre.sum + j)) = ((t.drop pre.sum).take k).take j := by
      unfold tailAt
      rw [List.length_take, Nat.min_eq_left (by omega), lastEnd_in pre 0 (by omega) (by omega), Nat.zero_add, List.take_take, Nat.min_eq_left (by omega), List.drop_take, Nat.add_sub_cancel_left]
    rw [e1]
  · rw [if_neg hj, if_neg hj]; rfl
theorem strM_anew {w r : Nat} {S : List (List Rat)} {t ks : List Nat} (ht : Dig w t) (hl : t.length = r) (hs : ks.sum = r) : strM w (anewS w r S ks) t ks = (partsAt (fun s k => (t.drop s).take k) 0 ks).map (missOn w S) := by
  have key : ∀ (rest pre : List Nat), ks = pre ++ rest → partsAt (fun s k => sumR (((stF w (anewS w r S ks) 0 t).drop s).take k)) pre.sum rest = (partsAt (fun s k => (t.drop s).take k) pre.sum rest).map (missOn w S) := by
    intro rest
    induction rest with
    | nil => intro pre _; rfl
    | cons k rest ih =>
      intro pre e
      have h1 := ih (pre ++ [k]) (by rw [e]; simp)
      have e2 : (pre ++ [k]).sum = pre.sum + k := by rw [List.sum_append]; simp
      rw [e2] at h1
      unfold partsAt
      rw [List.map_cons, ← h1]
      congr 1
      have h2 := piece_at (S := S) ht hl (by rw [← e]; exact hs) (pre := pre) (k := k) (rest := rest)
      rw [← e] at h2
      unfold missOn stF
      rw [← h2, List.map_take, List.map_drop]
  exact key ks [] rfl
end

end LK
set_option Elab.async false
set_option linter.all false
set_option maxRecDepth 100000
set_option maxHeartbeats 1000000
namespace LK
open PySem PySem.Spec PyProof.Rows L2 DL
local macro_rules | `(tactic| push_cast [$xs,*]) => `(tactic| repeat (first
  | with_reducible refine hold_i ?_
  | simp only [q_sp, q_st_c, q_st_n, q_st_0, q_seq, q_next, q_drop, q_ret, q_retN, q_ifS, q_break, q_cont, q_asg, q_par, q_name, q_gnil, q_gcons, q_gtup, q_for, q_var0, q_varS, q_c, q_nil, q_cons, q_tup, q_lst, q_newF, q_newT, q_op, q_test,
    q_and, q_or, q_not, q_andV, q_orV, q_notV, q_if, q_call, q_callK, q_cb, q_bm, q_bm0, q_frz, q_frzC, q_neg, q_sub, q_subC, q_lc, q_lc2, q_dc, q_yes, q_wipe0, q_wipeS, q_sl, q_noPart, q_part, q_cutS, q_cutT, q_cutL, q_cutC, q_rvC, q_rvL,
    q_lvC, q_lvL, q_clC, q_sqT, q_sqL, q_sqC, q_addI, q_addS, q_addT, q_addL, q_subI, q_mulI, q_divI, q_modI, q_powI, q_cmpI, q_eqI, q_neI, q_eqStr, q_isN, q_notN, q_ixT, q_ixL, q_ixC, q_ixS, q_at0, q_at1, q_at2, q_at3, q_at4, q_at5, q_at6, q_at7, q_at8, q_at9,
    q_len, q_lenT, q_lenL, q_lenC, q_lenS, q_sum, q_sumA, q_intI, q_intS, q_str, q_abs, q_max, q_min, q_list, q_tuple, q_isi, q_tyN, q_tyB, q_tyI, q_tyS, q_tyT, q_tyL, q_tyC, q_append, q_extend, q_rng1, q_sqi, u_isN, u_isB, u_isI, u_isS, u_isT, u_isL, u_isR, u_isD, u_isO, u_isC, q_frIx0, q_frIx1, q_frTup, q_frTy, q_frLen, q_raise0, q_raiseF, q_isi2, q_make, q_fld, q_setF, q_prop, q_meth, q_callO, q_inD, q_dget, q_inS, q_revS, q_revX, q_enumS, q_enum, q_zip, q_rev, q_rng2, q_rng3, q_insert, q_reverse, q_join, q_isTyS, q_isTyL, q_cntB, q_isTyC, q_isE, q_xf, q_ones, q_callE, q_ovO, q_ovC, q_dvD, q_keyS, q_keyI, q_den, kb_NoneType_bool, kb_NoneType_int, kb_NoneType_str, kb_NoneType_tuple, kb_NoneType_list, kb_NoneType_dict, kb_bool_bool, kb_bool_int, kb_bool_str, kb_bool_tuple, kb_bool_list, kb_bool_dict, kb_int_bool, kb_int_int, kb_int_str, kb_int_tuple, kb_int_list, kb_int_dict, kb_str_bool, kb_str_int, kb_str_str, kb_str_tuple, kb_str_list, kb_str_dict, kb_tuple_bool, kb_tuple_int, kb_tuple_str, kb_tuple_tuple, kb_tuple_list, kb_tuple_dict, kb_list_bool, kb_list_int, kb_list_str, kb_list_tuple, kb_list_list, kb_list_dict, kb_dict_bool, kb_dict_int, kb_dict_str, kb_dict_tuple, kb_dict_list, kb_dict_dict, u_cast, q_ixN0, q_ixN1, q_ixN2, q_ixN3, q_ixN4, mput_mput, Option.some.injEq, Dt.lst.injEq, Dt.cel.injEq, Prod.mk.injEq, lk_pl0, lk_pl1, lk_pl2, lk_pl3,  Dt.obj.injEq,  Dt.int.injEq, exists_eq_left', exists_eq_left, exists_and_left, u_mapC, u_mapE,  not_true_eq_false, not_false_eq_true, eq_self, u_size, Nat.reduceLeDiff, Nat.reduceLT, 
    u_set0, u_setS, u_lenC, u_lenN, List.append_nil, u_nilA, u_consA, u_mapS, u_mapN, u_bindS, u_bindN, mput_same,
    true_and, and_true, decide_eq_true_eq, Bool.not_eq_true', decide_eq_false_iff_not, u_notT, u_notF, if_true, if_false, ite_true, ite_false, Bool.false_eq_true, reduceCtorEq, reduceIte, Nat.reduceAdd, $xs,*]))
local macro_rules | `(tactic| push_cast only [$xs,*]) => `(tactic| (try with_reducible refine hold_i ?_); (simp only [q_sp, q_st_c, q_st_n, q_st_0, q_seq, q_next, q_drop, q_ret, q_retN, q_ifS, q_break, q_cont, q_asg, q_par, q_name, q_gnil, q_gcons, q_gtup, q_for, q_var0, q_varS, q_c, q_nil, q_cons, q_tup, q_lst, q_newF, q_newT, q_op, q_test,
    q_and, q_or, q_not, q_andV, q_orV, q_notV, q_if, q_call, q_callK, q_cb, q_bm, q_bm0, q_frz, q_frzC, q_neg, q_sub, q_subC, q_lc, q_lc2, q_dc, q_yes, q_wipe0, q_wipeS, q_sl, q_noPart, q_part, q_cutS, q_cutT, q_cutL, q_cutC, q_rvC, q_rvL,
    q_lvC, q_lvL, q_clC, q_sqT, q_sqL, q_sqC, q_addI, q_addS, q_addT, q_addL, q_subI, q_mulI, q_divI, q_modI, q_powI, q_cmpI, q_eqI, q_neI, q_eqStr, q_isN, q_notN, q_ixT, q_ixL, q_ixC, q_ixS, q_at0, q_at1, q_at2, q_at3, q_at4, q_at5, q_at6, q_at7, q_at8, q_at9,
    q_len, q_lenT, q_lenL, q_lenC, q_lenS, q_sum, q_sumA, q_intI, q_intS, q_str, q_abs, q_max, q_min, q_list, q_tuple, q_isi, q_tyN, q_tyB, q_tyI, q_tyS, q_tyT, q_tyL, q_tyC, q_append, q_extend, q_rng1, q_sqi, u_isN, u_isB, u_isI, u_isS, u_isT, u_isL, u_isR, u_isD, u_isO, u_isC, q_frIx0, q_frIx1, q_frTup, q_frTy, q_frLen, q_raise0, q_raiseF, q_isi2, q_make, q_fld, q_setF, q_prop, q_meth, q_callO, q_inD, q_dget, q_inS, q_revS, q_revX, q_enumS, q_enum, q_zip, q_rev, q_rng2, q_rng3, q_insert, q_reverse, q_join, q_isTyS, q_isTyL, q_cntB, q_isTyC, q_isE, q_xf, q_ones, q_callE, q_ovO, q_ovC, q_dvD, q_keyS, q_keyI, q_den, kb_NoneType_bool, kb_NoneType_int, kb_NoneType_str, kb_NoneType_tuple, kb_NoneType_list, kb_NoneType_dict, kb_bool_bool, kb_bool_int, kb_bool_str, kb_bool_tuple, kb_bool_list, kb_bool_dict, kb_int_bool, kb_int_int, kb_int_str, kb_int_tuple, kb_int_list, kb_int_dict, kb_str_bool, kb_str_int, kb_str_str, kb_str_tuple, kb_str_list, kb_str_dict, kb_tuple_bool, kb_tuple_int, kb_tuple_str, kb_tuple_tuple, kb_tuple_list, kb_tuple_dict, kb_list_bool, kb_list_int, kb_list_str, kb_list_tuple, kb_list_list, kb_list_dict, kb_dict_bool, kb_dict_int, kb_dict_str, kb_dict_tuple, kb_dict_list, kb_dict_dict, u_cast, q_ixN0, q_ixN1, q_ixN2, q_ixN3, q_ixN4, mput_mput, Option.some.injEq, Dt.lst.injEq, Dt.cel.injEq, Prod.mk.injEq, lk_pl0, lk_pl1, lk_pl2, lk_pl3,  Dt.obj.injEq,  Dt.int.injEq, exists_eq_left', exists_eq_left, exists_and_left, u_mapC, u_mapE,  not_true_eq_false, not_false_eq_true, eq_self, u_size, Nat.reduceLeDiff, Nat.reduceLT, 
    u_set0, u_setS, u_lenC, u_lenN, List.append_nil, u_nilA, u_consA, u_mapS, u_mapN, u_bindS, u_bindN, mput_same,
    true_and, and_true, decide_eq_true_eq, Bool.not_eq_true', decide_eq_false_iff_not, u_notT, u_notF, if_true, if_false, ite_true, ite_false, Bool.false_eq_true, reduceCtorEq, reduceIte, Nat.reduceAdd, $xs,*]))
section
variable {M : Mm} {Q : DQ} {X : DX}
theorem sum_parts {L : List Rat} : ∀ (ks : List Nat) (s : Nat), sumR (partsAt (fun s k => sumR ((L.drop s).take k)) s ks) = sumR ((L.drop s).take ks.sum)
  | [], s => by rw [List.sum_nil, List.take_zero]; rfl
  | k :: ks, s => by
    unfold partsAt
    have e : ∀ (x : Rat) (l : List Rat), sumR (x :: l) = x + sumR l := fun x l => by
      rw [show x :: l = [x] ++ l from rfl, sumR_append]
      congr 1
      show (0 : Rat) + x = x
      grind
    rw [e, sum_parts ks (s + k), List.sum_cons, List.take_add, sumR_append, List.drop_drop]
theorem sum_strM {w : Nat} {S : List (List Rat)} {t ks : List Nat} (hs : ks.sum = t.length) : sumR (strM w S t ks) = missOn w S t := by
  unfold strM missOn
  rw [sum_parts, List.drop_zero, hs, List.take_of_length_le (by rw [stF_len]; omega)]
theorem pieces_dg {t ks : List Nat} : (partsAt (fun s k => ((t.map (· + 48)).drop s).take k) 0 ks).map (fun l => Dt.str (mkS l)) = txs (partsAt (fun s k => (t.drop s).take k) 0 ks) := by
  unfold txs
  rw [partsAt_map, partsAt_map]
  congr 1
  funext s k
  show Dt.str (mkS (((t.map (· + 48)).drop s).take k)) = Dt.str (mkS (((t.drop s).take k).map (· + 48)))
  rw [List.map_take, List.map_drop]
theorem pieces_mem {t : List Nat} : ∀ (ks : List Nat) (s : Nat), ∀ u ∈ partsAt (fun s k => (t.drop s).take k) s ks, ∃ s k, u = (t.drop s).take k
  | [], _, _, h => by cases h
  | k :: ks, s, u, h => by
    rcases List.mem_cons.mp h with e | e
    · exact ⟨s, k, e⟩
    · exact pieces_mem ks _ u e
theorem miss_sz {n w r : Nat} {S : List (List Rat)} (hS : Shs n w r S) (hn : 1 ≤ n) {u : List Nat} (hu : u.length ≤ 8) : Sz (1 + 8 * (n + 3)) (missOn w S u) := by
  refine (sz_sumR (st_sz hS hn u 0)).mono ?_
  rw [stF_len]
  have : u.length * (n + 2 + 1) ≤ 8 * (n + 2 + 1) := Nat.mul_le_mul_right _ hu
  omega
theorem p_on_row {w r : Nat} {S : List (List Rat)} {t ks : List Nat} (hw : W5 w) (hr : r ≤ mostR w) (hS : Shs 6 w r S) (ht : Dig w t) (hl : t.length = r) (hL : Lens r ks) (hl2 : ks.length ≤ 12) (h : ∀ M', Kp M M' → Q (.bl true) M') :
    f_law_on_row [.int w, .lst (S.map fun s => .lst (frs s)), planD w r S, planD w r (anewS w r S ks), .str (dg t), .lst (lenD' ks)] M Q X := by
  have h8 := mostR_le (w := w)
  have hA := anewS_shs (ks := ks) hS
  have edg : dg t = mkS (t.map (· + 48)) := rfl
  have hpl : (partsAt (fun s k => (t.drop s).take k) 0 ks).length = ks.length := partsAt_len ks 0
  have hpm : ∀ u ∈ partsAt (fun s k => (t.drop s).take k) 0 ks, Dig w u ∧ u.length ≤ r := fun u hu => by
    obtain ⟨s, k, rfl⟩ := pieces_mem ks 0 u hu
    refine ⟨fun d hd => ht d (List.mem_of_mem_drop (List.mem_of_mem_take hd)), ?_⟩
    rw [List.length_take, List.length_drop]; omega
  have hst := strM_anew (S := S) ht hl hL.sum
  have hfr : (partsAt (fun s k => (t.drop s).take k) 0 ks).map (fun u => fr (missOn w S u)) = frs (strM w (anewS w r S ks) t ks) := by
    rw [hst]
    unfold DL.frs
    rw [List.map_map]; rfl
  push_cast [f_law_on_row, b_law_on_row]
  rw [edg]
  refine up_of (p_law_cut (by rw [hL.sum, List.length_map, hl]) (by rw [List.length_map]; omega) (by omega) ?_)
  rw [← edg, pieces_dg]
  push_cast []
  refine lc_map_mem (α := List Nat) (fun u => fr (missOn w S u)) trivial (partsAt (fun s k => (t.drop s).take k) 0 ks) [] (fun u N hu hN => ?_) (by rw [u_size, List.length_nil, hpl]; omega) ?_
  · push_cast []
    exact up_of (p_misses_on hw hr hS (by decide) (by decide) (hpm u hu).1 (hpm u hu).2 hN)
  push_cast [hfr]
  refine up_of (p_stretch_misses hw hr hA (by decide) (by decide) ht hl (.inl rfl) hL (by omega) fun q M1 hq hf1 hM1 => ?_)
  have hk1 : Kp M M1 := keep_new hq hf1
  push_cast []
  refine up_of (p_same 5 (sm_frs (n := 2) (by rw [strM_len]; omega)) (.inr ⟨q, _, rfl, rfl, hM1⟩) ?_)
  push_cast []
  refine lc_map_mem (α := List Nat) (fun u => fr (missOn w S u)) trivial (partsAt (fun s k => (t.drop s).take k) 0 ks) [] (fun u N hu hN => ?_) (by rw [u_size, List.length_nil, hpl]; omega) ?_
  · push_cast []
    exact up_of (p_row_misses hw hr hS (by decide) (by decide) (hpm u hu).1 (hpm u hu).2 hN)
  push_cast [hfr]
  refine up_of (p_same 5 (sm_frs (n := 2) (by rw [strM_len]; omega)) (.inl rfl) ?_)
  push_cast [hM1]
  refine ⟨⟨_, rfl⟩, by unfold DL.frs; rw [List.length_map, strM_len]; omega, ?_⟩
  have hk2 : Kp M (mput M1 q (Dt.lst (DL.frs (strM w (anewS w r S ks) t ks) ++ [Dt.non]))) := hk1.wr hq
  push_cast []
  refine up_of (p_same 5 (sm_len (n := 3) (by omega)) (.inl rfl) ?_)
  push_cast []
  refine up_of (p_stretch_misses hw hr hA (by decide) (by decide) ht hl (.inr (.inl rfl)) hL (by omega) fun q2 M3 hq2 hf3 hM3 => ?_)
  have hk3 := hk2.trans (keep_new hq2 hf3)
  push_cast []
  refine up_of (p_same 5 (sm_frs (n := 2) (by rw [strM_len]; omega)) (.inr ⟨q2, _, rfl, rfl, hM3⟩) ?_)
  push_cast []
  refine up_of (p_row_misses hw hr hA (by decide) (by decide) ht (by omega) ?_)
  push_cast []
  have hsz : ∀ x ∈ strM w (anewS w r S ks) t ks, Sz 73 x := fun x hx => by
    rw [hst] at hx
    obtain ⟨u, hu, rfl⟩ := List.mem_map.mp hx
    exact miss_sz hS (by decide) (by have := (hpm u hu).2; omega)
  refine up_of (p_law_sum hsz (by
    rw [strM_len]
    have : (ks.length + 1) * 74 ≤ 13 * 74 := Nat.mul_le_mul_right _ (by omega)
    omega) ?_)
  rw [sum_strM (by rw [hL.sum, hl])]
  push_cast []
  exact up_of (p_same 5 sm_fr (.inl rfl) (h _ hk3))
end

end LK
set_option Elab.async false
set_option linter.all false
set_option maxRecDepth 100000
set_option maxHeartbeats 1000000
namespace LK
open PySem PySem.Spec PyProof.Rows L2 DL
local macro_rules | `(tactic| push_cast [$xs,*]) => `(tactic| repeat (first
  | with_reducible refine hold_i ?_
  | simp only [q_sp, q_st_c, q_st_n, q_st_0, q_seq, q_next, q_drop, q_ret, q_retN, q_ifS, q_break, q_cont, q_asg, q_par, q_name, q_gnil, q_gcons, q_gtup, q_for, q_var0, q_varS, q_c, q_nil, q_cons, q_tup, q_lst, q_newF, q_newT, q_op, q_test,
    q_and, q_or, q_not, q_andV, q_orV, q_notV, q_if, q_call, q_callK, q_cb, q_bm, q_bm0, q_frz, q_frzC, q_neg, q_sub, q_subC, q_lc, q_lc2, q_dc, q_yes, q_wipe0, q_wipeS, q_sl, q_noPart, q_part, q_cutS, q_cutT, q_cutL, q_cutC, q_rvC, q_rvL,
    q_lvC, q_lvL, q_clC, q_sqT, q_sqL, q_sqC, q_addI, q_addS, q_addT, q_addL, q_subI, q_mulI, q_divI, q_modI, q_powI, q_cmpI, q_eqI, q_neI, q_eqStr, q_isN, q_notN, q_ixT, q_ixL, q_ixC, q_ixS, q_at0, q_at1, q_at2, q_at3, q_at4, q_at5, q_at6, q_at7, q_at8, q_at9,
    q_len, q_lenT, q_lenL, q_lenC, q_lenS, q_sum, q_sumA, q_intI, q_intS, q_str, q_abs, q_max, q_min, q_list, q_tuple, q_isi, q_tyN, q_tyB, q_tyI, q_tyS, q_tyT, q_tyL, q_tyC, q_append, q_extend, q_rng1, q_sqi, u_isN, u_isB, u_isI, u_isS, u_isT, u_isL, u_isR, u_isD, u_isO, u_isC, q_frIx0, q_frIx1, q_frTup, q_frTy, q_frLen, q_raise0, q_raiseF, q_isi2, q_make, q_fld, q_setF, q_prop, q_meth, q_callO, q_inD, q_dget, q_inS, q_revS, q_revX, q_enumS, q_enum, q_zip, q_rev, q_rng2, q_rng3, q_insert, q_reverse, q_join, q_isTyS, q_isTyL, q_cntB, q_isTyC, q_isE, q_xf, q_ones, q_callE, q_ovO, q_ovC, q_dvD, q_keyS, q_keyI, q_den, kb_NoneType_bool, kb_NoneType_int, kb_NoneType_str, kb_NoneType_tuple, kb_NoneType_list, kb_NoneType_dict, kb_bool_bool, kb_bool_int, kb_bool_str, kb_bool_tuple, kb_bool_list, kb_bool_dict, kb_int_bool, kb_int_int, kb_int_str, kb_int_tuple, kb_int_list, kb_int_dict, kb_str_bool, kb_str_int, kb_str_str, kb_str_tuple, kb_str_list, kb_str_dict, kb_tuple_bool, kb_tuple_int, kb_tuple_str, kb_tuple_tuple, kb_tuple_list, kb_tuple_dict, kb_list_bool, kb_list_int, kb_list_str, kb_list_tuple, kb_list_list, kb_list_dict, kb_dict_bool, kb_dict_int, kb_dict_str, kb_dict_tuple, kb_dict_list, kb_dict_dict, u_cast, q_ixN0, q_ixN1, q_ixN2, q_ixN3, q_ixN4, mput_mput, Option.some.injEq, Dt.lst.injEq, Dt.cel.injEq, Prod.mk.injEq, lk_pl0, lk_pl1, lk_pl2, lk_pl3,  Dt.obj.injEq,  Dt.int.injEq, exists_eq_left', exists_eq_left, exists_and_left, u_mapC, u_mapE,  not_true_eq_false, not_false_eq_true, eq_self, u_size, Nat.reduceLeDiff, Nat.reduceLT, 
    u_set0, u_setS, u_lenC, u_lenN, List.append_nil, u_nilA, u_consA, u_mapS, u_mapN, u_bindS, u_bindN, mput_same,
    true_and, and_true, decide_eq_true_eq, Bool.not_eq_true', decide_eq_false_iff_not, u_notT, u_notF, if_true, if_false, ite_true, ite_false, Bool.false_eq_true, reduceCtorEq, reduceIte, Nat.reduceAdd, $xs,*]))
local macro_rules | `(tactic| push_cast only [$xs,*]) => `(tactic| (try with_reducible refine hold_i ?_); (simp only [q_sp, q_st_c, q_st_n, q_st_0, q_seq, q_next, q_drop, q_ret, q_retN, q_ifS, q_break, q_cont, q_asg, q_par, q_name, q_gnil, q_gcons, q_gtup, q_for, q_var0, q_varS, q_c, q_nil, q_cons, q_tup, q_lst, q_newF, q_newT, q_op, q_test,
    q_and, q_or, q_not, q_andV, q_orV, q_notV, q_if, q_call, q_callK, q_cb, q_bm, q_bm0, q_frz, q_frzC, q_neg, q_sub, q_subC, q_lc, q_lc2, q_dc, q_yes, q_wipe0, q_wipeS, q_sl, q_noPart, q_part, q_cutS, q_cutT, q_cutL, q_cutC, q_rvC, q_rvL,
    q_lvC, q_lvL, q_clC, q_sqT, q_sqL, q_sqC, q_addI, q_addS, q_addT, q_addL, q_subI, q_mulI, q_divI, q_modI, q_powI, q_cmpI, q_eqI, q_neI, q_eqStr, q_isN, q_notN, q_ixT, q_ixL, q_ixC, q_ixS, q_at0, q_at1, q_at2, q_at3, q_at4, q_at5, q_at6, q_at7, q_at8, q_at9,
    q_len, q_lenT, q_lenL, q_lenC, q_lenS, q_sum, q_sumA, q_intI, q_intS, q_str, q_abs, q_max, q_min, q_list, q_tuple, q_isi, q_tyN, q_tyB, q_tyI, q_tyS, q_tyT, q_tyL, q_tyC, q_append, q_extend, q_rng1, q_sqi, u_isN, u_isB, u_isI, u_isS, u_isT, u_isL, u_isR, u_isD, u_isO, u_isC, q_frIx0, q_frIx1, q_frTup, q_frTy, q_frLen, q_raise0, q_raiseF, q_isi2, q_make, q_fld, q_setF, q_prop, q_meth, q_callO, q_inD, q_dget, q_inS, q_revS, q_revX, q_enumS, q_enum, q_zip, q_rev, q_rng2, q_rng3, q_insert, q_reverse, q_join, q_isTyS, q_isTyL, q_cntB, q_isTyC, q_isE, q_xf, q_ones, q_callE, q_ovO, q_ovC, q_dvD, q_keyS, q_keyI, q_den, kb_NoneType_bool, kb_NoneType_int, kb_NoneType_str, kb_NoneType_tuple, kb_NoneType_list, kb_NoneType_dict, kb_bool_bool, kb_bool_int, kb_bool_str, kb_bool_tuple, kb_bool_list, kb_bool_dict, kb_int_bool, kb_int_int, kb_int_str, kb_int_tuple, kb_int_list, kb_int_dict, kb_str_bool, kb_str_int, kb_str_str, kb_str_tuple, kb_str_list, kb_str_dict, kb_tuple_bool, kb_tuple_int, kb_tuple_str, kb_tuple_tuple, kb_tuple_list, kb_tuple_dict, kb_list_bool, kb_list_int, kb_list_str, kb_list_tuple, kb_list_list, kb_list_dict, kb_dict_bool, kb_dict_int, kb_dict_str, kb_dict_tuple, kb_dict_list, kb_dict_dict, u_cast, q_ixN0, q_ixN1, q_ixN2, q_ixN3, q_ixN4, mput_mput, Option.some.injEq, Dt.lst.injEq, Dt.cel.injEq, Prod.mk.injEq, lk_pl0, lk_pl1, lk_pl2, lk_pl3,  Dt.obj.injEq,  Dt.int.injEq, exists_eq_left', exists_eq_left, exists_and_left, u_mapC, u_mapE,  not_true_eq_false, not_false_eq_true, eq_self, u_size, Nat.reduceLeDiff, Nat.reduceLT, 
    u_set0, u_setS, u_lenC, u_lenN, List.append_nil, u_nilA, u_consA, u_mapS, u_mapN, u_bindS, u_bindN, mput_same,
    true_and, and_true, decide_eq_true_eq, Bool.not_eq_true', decide_eq_false_iff_not, u_notT, u_notF, if_true, if_false, ite_true, ite_false, Bool.false_eq_true, reduceCtorEq, reduceIte, Nat.reduceAdd, $xs,*]))
section
variable {M : Mm} {Q : DQ} {X : DX}
theorem dr_wr {a p : Addr} {M M1 : Mm} {d : Dt} (hd : Dr a M M1) (hpa : p ≠ a) (hp : M p = none) : Dr a M (mput M1 p d) := dr_cell hd hpa hp fun b hb => mput_ne hb
theorem p_one {a : Addr} {w r : Nat} {S : List (List Rat)} {ks : List Nat} (hM : Ok a M) (hw : W5 w) (hr : r ≤ mostR w) (hS : Shs 6 w r S) (hL : Lens r ks) (hl2 : ks.length ≤ 12) (h : ∀ M', Dr a M M' → Q (.bl true) M') :
    f_law_one [.cel a, .int w, .int r, .lst (S.map fun s => .lst (frs s)), planD w r S, .lst (lenD' ks)] M Q X := by
  have h8 := mostR_le (w := w)
  have hsm := small hw hr
  have w1 := hw.1
  have w5 := hw.2
  have hA := anewS_shs (ks := ks) hS
  push_cast [f_law_one, b_law_one]
  intro p hp
  have hpa := hM.ne hp
  have hd1 : Dr a M (mput M p (.lst (lenD' ks))) := (Dr.refl hM).new hp
  push_cast []
  refine up_of (p_anew hw hr hS (by decide) (.inr (.inr ⟨p, rfl, mput_same⟩)) hL fun M1 hk1 => ?_)
  have hd2 := hd1.same hk1
  have hM1 := hk1 p _ mput_same
  push_cast []
  refine up_of (p_same 5 (sm_len (n := 3) (by omega)) (.inr ⟨p, _, rfl, rfl, hM1⟩) ?_)
  push_cast [hM1]
  refine ⟨⟨_, rfl⟩, by unfold lenD'; rw [List.length_map]; omega, ?_⟩
  have hd3 := dr_wr (d := .lst (lenD' ks ++ [.int 1])) hd2 hpa hp
  push_cast []
  refine up_of (p_inner hw hr fun M3 hk3 => ?_)
  have hd4 := hd3.same hk3
  push_cast []
  refine lc_map_mem (α := List Nat) (fun t => .lst (frs (S.getD (idx w (tailAt ks t)) []))) trivial (begs w r) [] (fun t N ht hN => ?_) (by rw [u_size, begs_len, List.length_nil]; omega) ?_
  · have hb := begs_mem.mp ht
    push_cast []
    refine up_of (p_tail (by omega) hL.le ?_)
    push_cast []
    have ht2 := tailAt_begs (ks := ks) ht
    refine up_of (p_index hw (begs_mem.mp ht2).2 ?_)
    have e2 : (S.map fun s => Dt.lst (frs s))[idx w (tailAt ks t)]? = some (.lst (frs (S.getD (idx w (tailAt ks t)) []))) := by rw [List.getElem?_map, (getD_begs hS ht2).1]; rfl
    push_cast [atI_of e2]
    exact hN
  have eS : (begs w r).map (fun t => Dt.lst (frs (S.getD (idx w (tailAt ks t)) []))) = (anewS w r S ks).map fun s => .lst (frs s) := by
    unfold anewS
    rw [List.map_map]; rfl
  push_cast [eS]
  refine up_of (p_is_plan hw hr hA fun M4 hk4 => ?_)
  have hd5 := hd4.same hk4
  push_cast []
  refine up_of (p_is_plan hw hr hS fun M5 hk5 => ?_)
  have hd6 := hd5.same hk5
  push_cast []
  refine ⟨isPlD, up_of (p_Plan_shares fun q hq => ?_)⟩
  have hq0 := hd6.none hq
  have hqa := hd6.ok.ne hq
  push_cast [mput_same]
  refine ⟨⟨_, rfl⟩, by rw [List.length_map, hA.len]; omega, ?_⟩
  have hd7 := dr_wr (d := .lst ((anewS w r S ks).map shD ++ [.non])) hd6 hqa hq0
  push_cast []
  refine ⟨by decide, by decide, ?_⟩
  refine for_rng (n := 3) (fun i ds' M' => Dr a M M' ∧ ∃ z1 z2, ds' = [some (.cel a), some (.int w), some (.int r), some (.lst (S.map fun s => .lst (frs s))), some (planD w r S), some (.lst (lenD' ks)), some (.cel p), some (planD w r (anewS w r S ks)), some (.lst ((anewS w r S ks).map fun s => .lst (frs s))), some (.cel q), z1, z2, none]) (fun i ds' M' N hi hN => ?_) ?_ _ _ ⟨hd7, none, none, rfl⟩
  · rintro ⟨hd, z1, z2, rfl⟩
    push_cast [letters_dg hw]
    refine ⟨by decide +kernel, ?_⟩
    have e0 : dg (List.range w) = mkS ((List.range w).map (· + 48)) := rfl
    rw [e0]
    refine up_of (p_free hd.ok (by intro e; have := congrArg List.length e; simp at this; omega) (by rw [List.length_map, List.length_range]; omega) (by omega) fun c M8 hd8 hcl hcm => ?_)
    obtain ⟨t, rfl, ht⟩ := undig hcm
    rw [List.length_map] at hcl
    have edg : mkS (t.map (· + 48)) = dg t := rfl
    rw [edg]
    push_cast []
    refine up_of (p_on_row hw hr hS ht hcl hL hl2 fun M9 hk9 => ?_)
    push_cast []
    exact hN _ _ ⟨(hd.trans hd8).same hk9, _, _, rfl⟩
  · rintro ds' M' ⟨hd, z1, z2, rfl⟩
    push_cast []
    refine up_of (p_is_plan hw hr hA fun M10 hk10 => ?_)
    push_cast []
    refine up_of (p_anew hw hr hS (by decide) (.inr (.inl rfl)) hL fun M11 hk11 => ?_)
    push_cast []
    refine up_of (p_is_plan hw hr hA fun M12 hk12 => ?_)
    exact h _ (((hd.same hk10).same hk11).same hk12)
end

end LK
set_option Elab.async false
set_option linter.all false
set_option maxRecDepth 100000
set_option maxHeartbeats 1000000
namespace LK
open PySem PySem.Spec PyProof.Rows L2 DL
local macro_rules | `(tactic| push_cast [$xs,*]) => `(tactic| repeat (first
  | with_reducible refine hold_i ?_
  | simp only [q_sp, q_st_c, q_st_n, q_st_0, q_seq, q_next, q_drop, q_ret, q_retN, q_ifS, q_break, q_cont, q_asg, q_par, q_name, q_gnil, q_gcons, q_gtup, q_for, q_var0, q_varS, q_c, q_nil, q_cons, q_tup, q_lst, q_newF, q_newT, q_op, q_test,
    q_and, q_or, q_not, q_andV, q_orV, q_notV, q_if, q_call, q_callK, q_cb, q_bm, q_bm0, q_frz, q_frzC, q_neg, q_sub, q_subC, q_lc, q_lc2, q_dc, q_yes, q_wipe0, q_wipeS, q_sl, q_noPart, q_part, q_cutS, q_cutT, q_cutL, q_cutC, q_rvC, q_rvL,
    q_lvC, q_lvL, q_clC, q_sqT, q_sqL, q_sqC, q_addI, q_addS, q_addT, q_addL, q_subI, q_mulI, q_divI, q_modI, q_powI, q_cmpI, q_eqI, q_neI, q_eqStr, q_isN, q_notN, q_ixT, q_ixL, q_ixC, q_ixS, q_at0, q_at1, q_at2, q_at3, q_at4, q_at5, q_at6, q_at7, q_at8, q_at9,
    q_len, q_lenT, q_lenL, q_lenC, q_lenS, q_sum, q_sumA, q_intI, q_intS, q_str, q_abs, q_max, q_min, q_list, q_tuple, q_isi, q_tyN, q_tyB, q_tyI, q_tyS, q_tyT, q_tyL, q_tyC, q_append, q_extend, q_rng1, q_sqi, u_isN, u_isB, u_isI, u_isS, u_isT, u_isL, u_isR, u_isD, u_isO, u_isC, q_frIx0, q_frIx1, q_frTup, q_frTy, q_frLen, q_raise0, q_raiseF, q_isi2, q_make, q_fld, q_setF, q_prop, q_meth, q_callO, q_inD, q_dget, q_inS, q_revS, q_revX, q_enumS, q_enum, q_zip, q_rev, q_rng2, q_rng3, q_insert, q_reverse, q_join, q_isTyS, q_isTyL, q_cntB, q_isTyC, q_isE, q_xf, q_ones, q_callE, q_ovO, q_ovC, q_dvD, q_keyS, q_keyI, q_den, kb_NoneType_bool, kb_NoneType_int, kb_NoneType_str, kb_NoneType_tuple, kb_NoneType_list, kb_NoneType_dict, kb_bool_bool, kb_bool_int, kb_bool_str, kb_bool_tuple, kb_bool_list, kb_bool_dict, kb_int_bool, kb_int_int, kb_int_str, kb_int_tuple, kb_int_list, kb_int_dict, kb_str_bool, kb_str_int, kb_str_str, kb_str_tuple, kb_str_list, kb_str_dict, kb_tuple_bool, kb_tuple_int, kb_tuple_str, kb_tuple_tuple, kb_tuple_list, kb_tuple_dict, kb_list_bool, kb_list_int, kb_list_str, kb_list_tuple, kb_list_list, kb_list_dict, kb_dict_bool, kb_dict_int, kb_dict_str, kb_dict_tuple, kb_dict_list, kb_dict_dict, u_cast, q_ixN0, q_ixN1, q_ixN2, q_ixN3, q_ixN4, mput_mput, Option.some.injEq, Dt.lst.injEq, Dt.cel.injEq, Prod.mk.injEq, lk_pl0, lk_pl1, lk_pl2, lk_pl3,  Dt.obj.injEq,  Dt.int.injEq, exists_eq_left', exists_eq_left, exists_and_left, u_mapC, u_mapE,  not_true_eq_false, not_false_eq_true, eq_self, u_size, Nat.reduceLeDiff, Nat.reduceLT, 
    u_set0, u_setS, u_lenC, u_lenN, List.append_nil, u_nilA, u_consA, u_mapS, u_mapN, u_bindS, u_bindN, mput_same,
    true_and, and_true, decide_eq_true_eq, Bool.not_eq_true', decide_eq_false_iff_not, u_notT, u_notF, if_true, if_false, ite_true, ite_false, Bool.false_eq_true, reduceCtorEq, reduceIte, Nat.reduceAdd, $xs,*]))
local macro_rules | `(tactic| push_cast only [$xs,*]) => `(tactic| (try with_reducible refine hold_i ?_); (simp only [q_sp, q_st_c, q_st_n, q_st_0, q_seq, q_next, q_drop, q_ret, q_retN, q_ifS, q_break, q_cont, q_asg, q_par, q_name, q_gnil, q_gcons, q_gtup, q_for, q_var0, q_varS, q_c, q_nil, q_cons, q_tup, q_lst, q_newF, q_newT, q_op, q_test,
    q_and, q_or, q_not, q_andV, q_orV, q_notV, q_if, q_call, q_callK, q_cb, q_bm, q_bm0, q_frz, q_frzC, q_neg, q_sub, q_subC, q_lc, q_lc2, q_dc, q_yes, q_wipe0, q_wipeS, q_sl, q_noPart, q_part, q_cutS, q_cutT, q_cutL, q_cutC, q_rvC, q_rvL,
    q_lvC, q_lvL, q_clC, q_sqT, q_sqL, q_sqC, q_addI, q_addS, q_addT, q_addL, q_subI, q_mulI, q_divI, q_modI, q_powI, q_cmpI, q_eqI, q_neI, q_eqStr, q_isN, q_notN, q_ixT, q_ixL, q_ixC, q_ixS, q_at0, q_at1, q_at2, q_at3, q_at4, q_at5, q_at6, q_at7, q_at8, q_at9,
    q_len, q_lenT, q_lenL, q_lenC, q_lenS, q_sum, q_sumA, q_intI, q_intS, q_str, q_abs, q_max, q_min, q_list, q_tuple, q_isi, q_tyN, q_tyB, q_tyI, q_tyS, q_tyT, q_tyL, q_tyC, q_append, q_extend, q_rng1, q_sqi, u_isN, u_isB, u_isI, u_isS, u_isT, u_isL, u_isR, u_isD, u_isO, u_isC, q_frIx0, q_frIx1, q_frTup, q_frTy, q_frLen, q_raise0, q_raiseF, q_isi2, q_make, q_fld, q_setF, q_prop, q_meth, q_callO, q_inD, q_dget, q_inS, q_revS, q_revX, q_enumS, q_enum, q_zip, q_rev, q_rng2, q_rng3, q_insert, q_reverse, q_join, q_isTyS, q_isTyL, q_cntB, q_isTyC, q_isE, q_xf, q_ones, q_callE, q_ovO, q_ovC, q_dvD, q_keyS, q_keyI, q_den, kb_NoneType_bool, kb_NoneType_int, kb_NoneType_str, kb_NoneType_tuple, kb_NoneType_list, kb_NoneType_dict, kb_bool_bool, kb_bool_int, kb_bool_str, kb_bool_tuple, kb_bool_list, kb_bool_dict, kb_int_bool, kb_int_int, kb_int_str, kb_int_tuple, kb_int_list, kb_int_dict, kb_str_bool, kb_str_int, kb_str_str, kb_str_tuple, kb_str_list, kb_str_dict, kb_tuple_bool, kb_tuple_int, kb_tuple_str, kb_tuple_tuple, kb_tuple_list, kb_tuple_dict, kb_list_bool, kb_list_int, kb_list_str, kb_list_tuple, kb_list_list, kb_list_dict, kb_dict_bool, kb_dict_int, kb_dict_str, kb_dict_tuple, kb_dict_list, kb_dict_dict, u_cast, q_ixN0, q_ixN1, q_ixN2, q_ixN3, q_ixN4, mput_mput, Option.some.injEq, Dt.lst.injEq, Dt.cel.injEq, Prod.mk.injEq, lk_pl0, lk_pl1, lk_pl2, lk_pl3,  Dt.obj.injEq,  Dt.int.injEq, exists_eq_left', exists_eq_left, exists_and_left, u_mapC, u_mapE,  not_true_eq_false, not_false_eq_true, eq_self, u_size, Nat.reduceLeDiff, Nat.reduceLT, 
    u_set0, u_setS, u_lenC, u_lenN, List.append_nil, u_nilA, u_consA, u_mapS, u_mapN, u_bindS, u_bindN, mput_same,
    true_and, and_true, decide_eq_true_eq, Bool.not_eq_true', decide_eq_false_iff_not, u_notT, u_notF, if_true, if_false, ite_true, ite_false, Bool.false_eq_true, reduceCtorEq, reduceIte, Nat.reduceAdd, $xs,*]))
section
variable {M : Mm} {Q : DQ} {X : DX}
theorem den_str {x due : Dt} {w r : Nat} {S : List (List Rat)} {t : List Nat} {fa : Addr} {R : DQ} (hw : W5 w) (hr : r ≤ mostR w) (hS : Shs 6 w r S) (ht : Dig w t) (hl : t.length = r) (hb : BadL M r x due) (h : Q (.bl true) M) :
    f_stretch_misses [planD w r S, .str (dg t), x] M R (fun cn fs M2 => cn ∈ Cs ∧ ∀ a, M2 a = none → bs_law_denied a cn fs { nx := fun _ _ => False, rt := Q } [some (.cel fa), some due, some (.cel a)] M2) := by
  rcases hb with ⟨ks, bad, rest, hx, hk, hbad, rfl⟩ | ⟨ks, hx, hk, hs, rfl⟩
  · exact p_stretch_bc hw hr hS (by decide) (by decide) ht hl hx hk hbad ⟨mem_Cs1, fun a ha => den_bc hbad h⟩
  · exact p_stretch_mm hw hr hS (by decide) (by decide) ht hl hx hk hs ⟨mem_Cs3, fun a ha => den_mm h⟩
theorem den_row {x : Dt} {w r : Nat} {S : List (List Rat)} {c : List Nat} {fa : Addr} {R : DQ} (hw : W5 w) (hr : r ≤ mostR w) (hc : ¬ RowC w r c) (hl : c.length ≤ 1000) (h : Q (.bl true) M) :
    f_stretch_misses [planD w r S, .str (mkS c), x] M R (fun cn fs M2 => cn ∈ Cs ∧ ∀ a, M2 a = none → bs_law_denied a cn fs { nx := fun _ _ => False, rt := Q } [some (.cel fa), some (.tup [.str "BadRow", .str (mkS c)]), some (.cel a)] M2) :=
  p_stretch_row (n := 6) hw hr hc hl ⟨mem_Cs2, fun a ha => den_br h⟩
theorem den_anew {x due : Dt} {w r : Nat} {S : List (List Rat)} {fa : Addr} {R : DQ} (hb : BadL M r x due) (h : Q (.bl true) M) :
    f_anew [planD w r S, x] M R (fun cn fs M2 => cn ∈ Cs ∧ ∀ a, M2 a = none → bs_law_denied a cn fs { nx := fun _ _ => False, rt := Q } [some (.cel fa), some due, some (.cel a)] M2) := by
  rcases hb with ⟨ks, bad, rest, hx, hk, hbad, rfl⟩ | ⟨ks, hx, hk, hs, rfl⟩
  · exact p_anew_bc hx hk hbad ⟨mem_Cs1, fun a ha => den_bc hbad h⟩
  · exact p_anew_mm hx hk hs ⟨mem_Cs3, fun a ha => den_mm h⟩
theorem digs_of {w : Nat} {x : Nat} (hx : x ∉ (List.range w).map (· + 48)) {r : Nat} {u v : List Nat} : ¬ RowC w r (u ++ [x] ++ v) := fun z => hx (z.2 x (by simp))
theorem ite_both {p q A B : Prop} [Decidable p] [Decidable q] (h : ¬(p ∧ q)) : (if p then (if q then A else B) else B) = B := by
  by_cases hp : p
  · rw [if_pos hp, if_neg fun hq => h ⟨hp, hq⟩]
  · rw [if_neg hp]
theorem p_no_row {a : Addr} {w r : Nat} (hM : Ok a M) (hw : W5 w) (hr : r ≤ 8) (h : ∀ c M', Dr a M M' → ¬ RowC w r c → c.length ≤ 100 → Q (.str (mkS c)) M') : f_law_no_row [.cel a, .int w, .int r] M Q X := by
  have w1 := hw.1
  have w5 := hw.2
  have e0 : dg (List.range w) = mkS ((List.range w).map (· + 48)) := rfl
  have ez : Str.ofString "0" = mkS [48] := mkS_of _
  push_cast [f_law_no_row, b_law_no_row, letters_dg hw]
  refine ⟨by decide +kernel, ?_⟩
  rw [e0]
  refine up_of (p_free hM (by intro e; have := congrArg List.length e; simp at this; omega) (by rw [List.length_map, List.length_range]; omega) (by omega) fun c M1 hd1 hcl hcm => ?_)
  push_cast []
  refine up_of (p_take hd1.ok (by decide) fun kind M2 hd2 _ _ => ?_)
  have hdd := hd1.trans hd2
  push_cast []
  by_cases c0 : kind = 0
  · rw [if_pos c0, ez, mkS_len, mkS_app]
    refine ⟨by rw [mkS_len, List.length_singleton]; omega, h _ M2 hdd (fun z => ?_) ?_⟩
    · have := z.1
      rw [List.length_append, List.length_singleton] at this
      omega
    · rw [List.length_append, List.length_singleton]; omega
  rw [if_neg c0]
  push_cast []
  by_cases c1 : kind = 1 ∧ 0 < (r : Int)
  · rw [if_pos c1.1, if_pos c1.2, mkS_len]
    have e1 : cutS (mkS c) (some 1) none = mkS (c.drop 1) := cut_from_none (n := 1)
    rw [e1]
    refine ⟨by omega, h _ M2 hdd (fun z => ?_) ?_⟩
    · have := z.1
      rw [List.length_drop] at this
      omega
    · rw [List.length_drop]; omega
  rw [ite_both c1]
  push_cast []
  refine up_of (p_take hdd.ok (by omega) fun j M3 hd3 h0 h1 => ?_)
  obtain ⟨j, rfl⟩ := Int.eq_ofNat_of_zero_le h0
  have hj := h1 (by omega)
  have hdd3 := hdd.trans hd3
  push_cast []
  refine ⟨by rw [mkS_len]; omega, small_log (by omega), ?_⟩
  refine up_of (p_take hdd3.ok (by decide) fun k M4 hd4 k0 k1 => ?_)
  have hdd4 := hdd3.trans hd4
  have kk := k1 (by decide)
  rw [sign_digit hw]
  have ea : Str.ofString "a" = mkS [97] := mkS_of _
  have em : Str.ofString "-" = mkS [45] := mkS_of _
  have es : Str.ofString " " = mkS [32] := mkS_of _
  rw [ea, em, es]
  have ej : ((j : Int) + 1) = ((j + 1 : Nat) : Int) := rfl
  have fin : ∀ x : Nat, x ∉ (List.range w).map (· + 48) → (cutS (mkS c) none (some (j : Int))).length + (mkS [x]).length ≤ 16777216 ∧ (mkS c).length ≤ 16777216 ∧ (cutS (mkS c) none (some (j : Int)) ++ mkS [x]).length + (cutS (mkS c) (some ((j : Int) + 1)) none).length ≤ 16777216 ∧ Q (.str (cutS (mkS c) none (some (j : Int)) ++ mkS [x] ++ cutS (mkS c) (some ((j : Int) + 1)) none)) M4 := fun x hx => by
    rw [ej, cut_none_to, cut_from_none, mkS_app, mkS_app, mkS_len, mkS_len, mkS_len, mkS_len, mkS_len]
    have hlen : (c.take j ++ [x] ++ c.drop (j + 1)).length ≤ 100 := by
      simp only [List.length_append, List.length_take, List.length_drop, List.length_cons, List.length_nil]
      omega
    simp only [List.length_append, List.length_take, List.length_drop, List.length_cons, List.length_nil]
    exact ⟨by omega, by omega, by omega, h _ M4 hdd4 (digs_of hx) hlen⟩
  have hd : ∀ x : Nat, (x < 48 ∨ w + 48 ≤ x) → x ∉ (List.range w).map (· + 48) := fun x hx hm => by
    obtain ⟨y, hy, rfl⟩ := List.mem_map.mp hm
    have := List.mem_range.mp hy
    omega
  have : k = 0 ∨ k = 1 ∨ k = 2 ∨ k = 3 := by omega
  rcases this with rfl | rfl | rfl | rfl
  · push_cast []
    exact fin (w + 48) (hd (w + 48) (by omega))
  · push_cast []
    exact fin (97) (hd (97) (by omega))
  · push_cast []
    exact fin (45) (hd (45) (by omega))
  · push_cast []
    exact fin (32) (hd (32) (by omega))
end

end LK
set_option Elab.async false
set_option linter.all false
set_option maxRecDepth 100000
set_option maxHeartbeats 1000000
namespace LK
open PySem PySem.Spec PyProof.Rows L2 DL
local macro_rules | `(tactic| push_cast [$xs,*]) => `(tactic| repeat (first
  | with_reducible refine hold_i ?_
  | simp only [q_sp, q_st_c, q_st_n, q_st_0, q_seq, q_next, q_drop, q_ret, q_retN, q_ifS, q_break, q_cont, q_asg, q_par, q_name, q_gnil, q_gcons, q_gtup, q_for, q_var0, q_varS, q_c, q_nil, q_cons, q_tup, q_lst, q_newF, q_newT, q_op, q_test,
    q_and, q_or, q_not, q_andV, q_orV, q_notV, q_if, q_call, q_callK, q_cb, q_bm, q_bm0, q_frz, q_frzC, q_neg, q_sub, q_subC, q_lc, q_lc2, q_dc, q_yes, q_wipe0, q_wipeS, q_sl, q_noPart, q_part, q_cutS, q_cutT, q_cutL, q_cutC, q_rvC, q_rvL,
    q_lvC, q_lvL, q_clC, q_sqT, q_sqL, q_sqC, q_addI, q_addS, q_addT, q_addL, q_subI, q_mulI, q_divI, q_modI, q_powI, q_cmpI, q_eqI, q_neI, q_eqStr, q_isN, q_notN, q_ixT, q_ixL, q_ixC, q_ixS, q_at0, q_at1, q_at2, q_at3, q_at4, q_at5, q_at6, q_at7, q_at8, q_at9,
    q_len, q_lenT, q_lenL, q_lenC, q_lenS, q_sum, q_sumA, q_intI, q_intS, q_str, q_abs, q_max, q_min, q_list, q_tuple, q_isi, q_tyN, q_tyB, q_tyI, q_tyS, q_tyT, q_tyL, q_tyC, q_append, q_extend, q_rng1, q_sqi, u_isN, u_isB, u_isI, u_isS, u_isT, u_isL, u_isR, u_isD, u_isO, u_isC, q_frIx0, q_frIx1, q_frTup, q_frTy, q_frLen, q_raise0, q_raiseF, q_isi2, q_make, q_fld, q_setF, q_prop, q_meth, q_callO, q_inD, q_dget, q_inS, q_revS, q_revX, q_enumS, q_enum, q_zip, q_rev, q_rng2, q_rng3, q_insert, q_reverse, q_join, q_isTyS, q_isTyL, q_cntB, q_isTyC, q_isE, q_xf, q_ones, q_callE, q_ovO, q_ovC, q_dvD, q_keyS, q_keyI, q_den, kb_NoneType_bool, kb_NoneType_int, kb_NoneType_str, kb_NoneType_tuple, kb_NoneType_list, kb_NoneType_dict, kb_bool_bool, kb_bool_int, kb_bool_str, kb_bool_tuple, kb_bool_list, kb_bool_dict, kb_int_bool, kb_int_int, kb_int_str, kb_int_tuple, kb_int_list, kb_int_dict, kb_str_bool, kb_str_int, kb_str_str, kb_str_tuple, kb_str_list, kb_str_dict, kb_tuple_bool, kb_tuple_int, kb_tuple_str, kb_tuple_tuple, kb_tuple_list, kb_tuple_dict, kb_list_bool, kb_list_int, kb_list_str, kb_list_tuple, kb_list_list, kb_list_dict, kb_dict_bool, kb_dict_int, kb_dict_str, kb_dict_tuple, kb_dict_list, kb_dict_dict, u_cast, q_ixN0, q_ixN1, q_ixN2, q_ixN3, q_ixN4, mput_mput, Option.some.injEq, Dt.lst.injEq, Dt.cel.injEq, Prod.mk.injEq, lk_pl0, lk_pl1, lk_pl2, lk_pl3,  Dt.obj.injEq,  Dt.int.injEq, exists_eq_left', exists_eq_left, exists_and_left, u_mapC, u_mapE,  not_true_eq_false, not_false_eq_true, eq_self, u_size, Nat.reduceLeDiff, Nat.reduceLT, 
    u_set0, u_setS, u_lenC, u_lenN, List.append_nil, u_nilA, u_consA, u_mapS, u_mapN, u_bindS, u_bindN, mput_same,
    true_and, and_true, decide_eq_true_eq, Bool.not_eq_true', decide_eq_false_iff_not, u_notT, u_notF, if_true, if_false, ite_true, ite_false, Bool.false_eq_true, reduceCtorEq, reduceIte, Nat.reduceAdd, $xs,*]))
local macro_rules | `(tactic| push_cast only [$xs,*]) => `(tactic| (try with_reducible refine hold_i ?_); (simp only [q_sp, q_st_c, q_st_n, q_st_0, q_seq, q_next, q_drop, q_ret, q_retN, q_ifS, q_break, q_cont, q_asg, q_par, q_name, q_gnil, q_gcons, q_gtup, q_for, q_var0, q_varS, q_c, q_nil, q_cons, q_tup, q_lst, q_newF, q_newT, q_op, q_test,
    q_and, q_or, q_not, q_andV, q_orV, q_notV, q_if, q_call, q_callK, q_cb, q_bm, q_bm0, q_frz, q_frzC, q_neg, q_sub, q_subC, q_lc, q_lc2, q_dc, q_yes, q_wipe0, q_wipeS, q_sl, q_noPart, q_part, q_cutS, q_cutT, q_cutL, q_cutC, q_rvC, q_rvL,
    q_lvC, q_lvL, q_clC, q_sqT, q_sqL, q_sqC, q_addI, q_addS, q_addT, q_addL, q_subI, q_mulI, q_divI, q_modI, q_powI, q_cmpI, q_eqI, q_neI, q_eqStr, q_isN, q_notN, q_ixT, q_ixL, q_ixC, q_ixS, q_at0, q_at1, q_at2, q_at3, q_at4, q_at5, q_at6, q_at7, q_at8, q_at9,
    q_len, q_lenT, q_lenL, q_lenC, q_lenS, q_sum, q_sumA, q_intI, q_intS, q_str, q_abs, q_max, q_min, q_list, q_tuple, q_isi, q_tyN, q_tyB, q_tyI, q_tyS, q_tyT, q_tyL, q_tyC, q_append, q_extend, q_rng1, q_sqi, u_isN, u_isB, u_isI, u_isS, u_isT, u_isL, u_isR, u_isD, u_isO, u_isC, q_frIx0, q_frIx1, q_frTup, q_frTy, q_frLen, q_raise0, q_raiseF, q_isi2, q_make, q_fld, q_setF, q_prop, q_meth, q_callO, q_inD, q_dget, q_inS, q_revS, q_revX, q_enumS, q_enum, q_zip, q_rev, q_rng2, q_rng3, q_insert, q_reverse, q_join, q_isTyS, q_isTyL, q_cntB, q_isTyC, q_isE, q_xf, q_ones, q_callE, q_ovO, q_ovC, q_dvD, q_keyS, q_keyI, q_den, kb_NoneType_bool, kb_NoneType_int, kb_NoneType_str, kb_NoneType_tuple, kb_NoneType_list, kb_NoneType_dict, kb_bool_bool, kb_bool_int, kb_bool_str, kb_bool_tuple, kb_bool_list, kb_bool_dict, kb_int_bool, kb_int_int, kb_int_str, kb_int_tuple, kb_int_list, kb_int_dict, kb_str_bool, kb_str_int, kb_str_str, kb_str_tuple, kb_str_list, kb_str_dict, kb_tuple_bool, kb_tuple_int, kb_tuple_str, kb_tuple_tuple, kb_tuple_list, kb_tuple_dict, kb_list_bool, kb_list_int, kb_list_str, kb_list_tuple, kb_list_list, kb_list_dict, kb_dict_bool, kb_dict_int, kb_dict_str, kb_dict_tuple, kb_dict_list, kb_dict_dict, u_cast, q_ixN0, q_ixN1, q_ixN2, q_ixN3, q_ixN4, mput_mput, Option.some.injEq, Dt.lst.injEq, Dt.cel.injEq, Prod.mk.injEq, lk_pl0, lk_pl1, lk_pl2, lk_pl3,  Dt.obj.injEq,  Dt.int.injEq, exists_eq_left', exists_eq_left, exists_and_left, u_mapC, u_mapE,  not_true_eq_false, not_false_eq_true, eq_self, u_size, Nat.reduceLeDiff, Nat.reduceLT, 
    u_set0, u_setS, u_lenC, u_lenN, List.append_nil, u_nilA, u_consA, u_mapS, u_mapN, u_bindS, u_bindN, mput_same,
    true_and, and_true, decide_eq_true_eq, Bool.not_eq_true', decide_eq_false_iff_not, u_notT, u_notF, if_true, if_false, ite_true, ite_false, Bool.false_eq_true, reduceCtorEq, reduceIte, Nat.reduceAdd, $xs,*]))
section
variable {M : Mm} {Q : DQ} {X : DX}
theorem p_bad_lengths {a : Addr} {n : Nat} (hM : Ok a M) (hn : n ≤ 8) (h : ∀ x due M', Dr a M M' → (∀ M2, Dr a M' M2 → BadL M2 n x due) → Q (.tup [x, due]) M') : f_law_bad_lengths [.cel a, .int n] M Q X := by
  push_cast [f_law_bad_lengths, b_law_bad_lengths]
  refine up_of (p_lengths hM hn fun ks M1 hd1 hL hlen => ?_)
  have el : (lenD' ks).length = ks.length := List.length_map _
  push_cast [el]
  refine up_of (p_take hd1.ok (by omega) fun j M2 hd2 h0 h1 => ?_)
  obtain ⟨j, rfl⟩ := Int.eq_ofNat_of_zero_le h0
  have hj := h1 (by omega)
  push_cast []
  refine up_of (p_take hd2.ok (by decide) fun kind M3 hd3 _ _ => ?_)
  have hdd := (hd1.trans hd2).trans hd3
  have ek : (lenD' ks).take j = lenD' (ks.take j) := by unfold lenD'; rw [List.map_take]
  have ed : (lenD' ks).drop j = lenD' (ks.drop j) := by unfold lenD'; rw [List.map_drop]
  have em : ∀ l : List Nat, (lenD' l).length = l.length := fun l => List.length_map _
  have et : ∀ k ∈ ks.take j, k ≤ 8 := fun k hk => hL.le k (List.mem_of_mem_take hk)
  have ev : ∀ k ∈ ks.drop j, k ≤ 8 := fun k hk => hL.le k (List.mem_of_mem_drop hk)
  push_cast []
  have last : ∀ M4 z4, Dr a M M4 → hold (dRet (dTup (dCons (dOp (dAddR false) (dOp (dAddR false) (dSl false (dVar 2) dNoPart (dPart (dVar 3))) (dLst false (dCons (dOp (dAddR false) (dC (.int 1)) (dCall f_law_take [] X (dCons (dVar 0) (dCons (dC (.int 8)) dNil)))) dNil))) (dSl false (dVar 2) (dPart (dVar 3)) dNoPart)) (dCons (dTup (dCons (dC (.str "Mismatch")) dNil)) dNil)))) { nx := fun _ M1 => Q .non M1, rt := Q } [some (.cel a), some (.int n), some (.lst (lenD' ks)), some (.int j), z4, none, none] M4 := by
    intro M4 z4 hd4
    push_cast [cutD_to, ek]
    refine up_of (p_take hd4.ok (by decide) fun i M5 hd5 h0 h1 => ?_)
    obtain ⟨i, rfl⟩ := Int.eq_ofNat_of_zero_le h0
    have hi := h1 (by decide)
    push_cast [cutD_from, ed, em, List.length_take, List.length_drop, List.length_append]
    refine ⟨by omega, by omega, ?_⟩
    have e : lenD' (ks.take j) ++ (Dt.int (1 + (i : Int)) :: lenD' (ks.drop j)) = lenD' (ks.take j ++ (1 + i) :: ks.drop j) := by
      unfold lenD'
      rw [List.map_append]; simp
    refine h _ _ M5 (hd4.trans hd5) (fun M2 hm => .inr ⟨ks.take j ++ (1 + i) :: ks.drop j, .inl ?_, fun k hk => ?_, ?_, rfl⟩)
    · rw [← e]; simp
    · rcases List.mem_append.mp hk with hk | hk
      · exact et k hk
      · rcases List.mem_cons.mp hk with hk | hk
        · omega
        · exact ev k hk
    · have := congrArg List.sum (List.take_append_drop j ks)
      rw [List.sum_append] at this
      rw [List.sum_append, List.sum_cons, ← hL.sum]; omega
  split
  · push_cast []
    refine up_of (p_bad_count hd3.ok (by omega) (by omega) fun bad M4 hd4 hb => ?_)
    push_cast [cutD_to, cutD_from, ek, ed, em, List.length_take, List.length_drop, List.length_append]
    refine ⟨by omega, by omega, ?_⟩
    refine h _ _ M4 (hdd.trans hd4) (fun M2 hm => .inl ⟨ks.take j, bad, lenD' (ks.drop j), .inl (by simp), et, hb, rfl⟩)
  · push_cast []
    refine up_of (p_take hd3.ok (by decide) fun kind2 M6 hd6 _ _ => ?_)
    have hdd6 := hdd.trans hd6
    push_cast []
    by_cases c3 : kind2 = 0 ∧ (0 : Int) < n
    · rw [if_pos c3.1, if_pos c3.2]
      push_cast []
      refine lc_filter (α := Nat) (fun k => decide (k = 0)) (fun k => .int (k : Int)) trivial ks [] (fun k N N2 hk h1 h2 => ?_) (by rw [u_size, List.length_nil]; omega) ?_
      · push_cast []
        by_cases c5 : k = 0
        · subst c5
          push_cast []
          exact h1 (by decide)
        · rw [if_neg (by omega)]
          exact h2 (by simp [c5])
      · push_cast []
        refine h _ _ M6 hdd6 (fun M2 hm => .inr ⟨ks.filter fun k => decide (k = 0), .inl rfl, fun k hk => hL.le k (List.mem_filter.mp hk).1, ?_, rfl⟩)
        have : (ks.filter fun k => decide (k = 0)).sum = 0 := by
          have key : ∀ l : List Nat, (l.filter fun k => decide (k = 0)).sum = 0 := by
            intro l
            induction l with
            | nil => rfl
            | cons x l ih =>
              rw [List.filter_cons]
              split
              · rename_i hx
                rw [List.sum_cons, ih]
                simpa using hx
              · exact ih
          exact key ks
        omega
    rw [ite_both c3]
    push_cast []
    by_cases c4 : kind2 = 1 ∧ (0 : Int) < n
    · rw [if_pos c4.1, if_pos c4.2]
      push_cast []
      refine up_of (p_edge hd6.ok (by omega) fun e M4 hd4 h0 h1 => ?_)
      obtain ⟨e, rfl⟩ := Int.eq_ofNat_of_zero_le h0
      have he := h1 (by omega)
      push_cast []
      refine up_of (p_lengths hd4.ok (by omega) fun ks2 M5 hd5 hL2 hlen2 => ?_)
      push_cast []
      exact h _ _ M5 ((hdd6.trans hd4).trans hd5) (fun M2 hm => .inr ⟨ks2, .inl rfl, hL2.le, by rw [hL2.sum]; omega, rfl⟩)
    rw [ite_both c4]
    exact last M6 _ hdd6
end

end LK
set_option Elab.async false
set_option linter.all false
set_option maxRecDepth 100000
set_option maxHeartbeats 1000000
namespace LK
open PySem PySem.Spec PyProof.Rows L2 DL
local macro_rules | `(tactic| push_cast [$xs,*]) => `(tactic| repeat (first
  | with_reducible refine hold_i ?_
  | simp only [q_sp, q_st_c, q_st_n, q_st_0, q_seq, q_next, q_drop, q_ret, q_retN, q_ifS, q_break, q_cont, q_asg, q_par, q_name, q_gnil, q_gcons, q_gtup, q_for, q_var0, q_varS, q_c, q_nil, q_cons, q_tup, q_lst, q_newF, q_newT, q_op, q_test,
    q_and, q_or, q_not, q_andV, q_orV, q_notV, q_if, q_call, q_callK, q_cb, q_bm, q_bm0, q_frz, q_frzC, q_neg, q_sub, q_subC, q_lc, q_lc2, q_dc, q_yes, q_wipe0, q_wipeS, q_sl, q_noPart, q_part, q_cutS, q_cutT, q_cutL, q_cutC, q_rvC, q_rvL,
    q_lvC, q_lvL, q_clC, q_sqT, q_sqL, q_sqC, q_addI, q_addS, q_addT, q_addL, q_subI, q_mulI, q_divI, q_modI, q_powI, q_cmpI, q_eqI, q_neI, q_eqStr, q_isN, q_notN, q_ixT, q_ixL, q_ixC, q_ixS, q_at0, q_at1, q_at2, q_at3, q_at4, q_at5, q_at6, q_at7, q_at8, q_at9,
    q_len, q_lenT, q_lenL, q_lenC, q_lenS, q_sum, q_sumA, q_intI, q_intS, q_str, q_abs, q_max, q_min, q_list, q_tuple, q_isi, q_tyN, q_tyB, q_tyI, q_tyS, q_tyT, q_tyL, q_tyC, q_append, q_extend, q_rng1, q_sqi, u_isN, u_isB, u_isI, u_isS, u_isT, u_isL, u_isR, u_isD, u_isO, u_isC, q_frIx0, q_frIx1, q_frTup, q_frTy, q_frLen, q_raise0, q_raiseF, q_isi2, q_make, q_fld, q_setF, q_prop, q_meth, q_callO, q_inD, q_dget, q_inS, q_revS, q_revX, q_enumS, q_enum, q_zip, q_rev, q_rng2, q_rng3, q_insert, q_reverse, q_join, q_isTyS, q_isTyL, q_cntB, q_isTyC, q_isE, q_xf, q_ones, q_callE, q_ovO, q_ovC, q_dvD, q_keyS, q_keyI, q_den, kb_NoneType_bool, kb_NoneType_int, kb_NoneType_str, kb_NoneType_tuple, kb_NoneType_list, kb_NoneType_dict, kb_bool_bool, kb_bool_int, kb_bool_str, kb_bool_tuple, kb_bool_list, kb_bool_dict, kb_int_bool, kb_int_int, kb_int_str, kb_int_tuple, kb_int_list, kb_int_dict, kb_str_bool, kb_str_int, kb_str_str, kb_str_tuple, kb_str_list, kb_str_dict, kb_tuple_bool, kb_tuple_int, kb_tuple_str, kb_tuple_tuple, kb_tuple_list, kb_tuple_dict, kb_list_bool, kb_list_int, kb_list_str, kb_list_tuple, kb_list_list, kb_list_dict, kb_dict_bool, kb_dict_int, kb_dict_str, kb_dict_tuple, kb_dict_list, kb_dict_dict, u_cast, q_ixN0, q_ixN1, q_ixN2, q_ixN3, q_ixN4, mput_mput, Option.some.injEq, Dt.lst.injEq, Dt.cel.injEq, Prod.mk.injEq, lk_pl0, lk_pl1, lk_pl2, lk_pl3,  Dt.obj.injEq,  Dt.int.injEq, exists_eq_left', exists_eq_left, exists_and_left, u_mapC, u_mapE,  not_true_eq_false, not_false_eq_true, eq_self, u_size, Nat.reduceLeDiff, Nat.reduceLT, 
    u_set0, u_setS, u_lenC, u_lenN, List.append_nil, u_nilA, u_consA, u_mapS, u_mapN, u_bindS, u_bindN, mput_same,
    true_and, and_true, decide_eq_true_eq, Bool.not_eq_true', decide_eq_false_iff_not, u_notT, u_notF, if_true, if_false, ite_true, ite_false, Bool.false_eq_true, reduceCtorEq, reduceIte, Nat.reduceAdd, $xs,*]))
local macro_rules | `(tactic| push_cast only [$xs,*]) => `(tactic| (try with_reducible refine hold_i ?_); (simp only [q_sp, q_st_c, q_st_n, q_st_0, q_seq, q_next, q_drop, q_ret, q_retN, q_ifS, q_break, q_cont, q_asg, q_par, q_name, q_gnil, q_gcons, q_gtup, q_for, q_var0, q_varS, q_c, q_nil, q_cons, q_tup, q_lst, q_newF, q_newT, q_op, q_test,
    q_and, q_or, q_not, q_andV, q_orV, q_notV, q_if, q_call, q_callK, q_cb, q_bm, q_bm0, q_frz, q_frzC, q_neg, q_sub, q_subC, q_lc, q_lc2, q_dc, q_yes, q_wipe0, q_wipeS, q_sl, q_noPart, q_part, q_cutS, q_cutT, q_cutL, q_cutC, q_rvC, q_rvL,
    q_lvC, q_lvL, q_clC, q_sqT, q_sqL, q_sqC, q_addI, q_addS, q_addT, q_addL, q_subI, q_mulI, q_divI, q_modI, q_powI, q_cmpI, q_eqI, q_neI, q_eqStr, q_isN, q_notN, q_ixT, q_ixL, q_ixC, q_ixS, q_at0, q_at1, q_at2, q_at3, q_at4, q_at5, q_at6, q_at7, q_at8, q_at9,
    q_len, q_lenT, q_lenL, q_lenC, q_lenS, q_sum, q_sumA, q_intI, q_intS, q_str, q_abs, q_max, q_min, q_list, q_tuple, q_isi, q_tyN, q_tyB, q_tyI, q_tyS, q_tyT, q_tyL, q_tyC, q_append, q_extend, q_rng1, q_sqi, u_isN, u_isB, u_isI, u_isS, u_isT, u_isL, u_isR, u_isD, u_isO, u_isC, q_frIx0, q_frIx1, q_frTup, q_frTy, q_frLen, q_raise0, q_raiseF, q_isi2, q_make, q_fld, q_setF, q_prop, q_meth, q_callO, q_inD, q_dget, q_inS, q_revS, q_revX, q_enumS, q_enum, q_zip, q_rev, q_rng2, q_rng3, q_insert, q_reverse, q_join, q_isTyS, q_isTyL, q_cntB, q_isTyC, q_isE, q_xf, q_ones, q_callE, q_ovO, q_ovC, q_dvD, q_keyS, q_keyI, q_den, kb_NoneType_bool, kb_NoneType_int, kb_NoneType_str, kb_NoneType_tuple, kb_NoneType_list, kb_NoneType_dict, kb_bool_bool, kb_bool_int, kb_bool_str, kb_bool_tuple, kb_bool_list, kb_bool_dict, kb_int_bool, kb_int_int, kb_int_str, kb_int_tuple, kb_int_list, kb_int_dict, kb_str_bool, kb_str_int, kb_str_str, kb_str_tuple, kb_str_list, kb_str_dict, kb_tuple_bool, kb_tuple_int, kb_tuple_str, kb_tuple_tuple, kb_tuple_list, kb_tuple_dict, kb_list_bool, kb_list_int, kb_list_str, kb_list_tuple, kb_list_list, kb_list_dict, kb_dict_bool, kb_dict_int, kb_dict_str, kb_dict_tuple, kb_dict_list, kb_dict_dict, u_cast, q_ixN0, q_ixN1, q_ixN2, q_ixN3, q_ixN4, mput_mput, Option.some.injEq, Dt.lst.injEq, Dt.cel.injEq, Prod.mk.injEq, lk_pl0, lk_pl1, lk_pl2, lk_pl3,  Dt.obj.injEq,  Dt.int.injEq, exists_eq_left', exists_eq_left, exists_and_left, u_mapC, u_mapE,  not_true_eq_false, not_false_eq_true, eq_self, u_size, Nat.reduceLeDiff, Nat.reduceLT, 
    u_set0, u_setS, u_lenC, u_lenN, List.append_nil, u_nilA, u_consA, u_mapS, u_mapN, u_bindS, u_bindN, mput_same,
    true_and, and_true, decide_eq_true_eq, Bool.not_eq_true', decide_eq_false_iff_not, u_notT, u_notF, if_true, if_false, ite_true, ite_false, Bool.false_eq_true, reduceCtorEq, reduceIte, Nat.reduceAdd, $xs,*]))
section
variable {M : Mm} {Q : DQ} {X : DX}
theorem p_wrong {a : Addr} {w r : Nat} {S : List (List Rat)} {ks : List Nat} (hM : Ok a M) (hw : W5 w) (hr : r ≤ mostR w) (hS : Shs 6 w r S) (hL : Lens r ks) (hl2 : ks.length ≤ 12) (h : ∀ M', Dr a M M' → Q (.bl true) M') :
    f_law_wrong [.cel a, .int w, .int r, planD w r S, .lst (lenD' ks)] M Q X := by
  have h8 := mostR_le (w := w)
  have w1 := hw.1
  have w5 := hw.2
  have e0 : dg (List.range w) = mkS ((List.range w).map (· + 48)) := rfl
  push_cast [f_law_wrong, b_law_wrong, letters_dg hw]
  refine ⟨by decide +kernel, ?_⟩
  rw [e0]
  refine up_of (p_free hM (by intro e; have := congrArg List.length e; simp at this; omega) (by rw [List.length_map, List.length_range]; omega) (by omega) fun c M1 hd1 hcl hcm => ?_)
  obtain ⟨t, rfl, ht⟩ := undig hcm
  rw [List.length_map] at hcl
  have edg : mkS (t.map (· + 48)) = dg t := rfl
  rw [edg]
  push_cast []
  refine up_of (p_no_row hd1.ok hw (by omega) fun z M2 hd2 hz hzl => ?_)
  push_cast []
  have hdd2 := hd1.trans hd2
  refine up_of (p_bad_count (lo := 0) (hi := 8) hdd2.ok (by omega) (by omega) fun bad M3 hd3 hb => ?_)
  have hdd3 := hdd2.trans hd3
  push_cast []
  have el : (lenD' ks).length = ks.length := List.length_map _
  rw [el]
  refine ⟨by omega, ?_⟩
  refine up_of (p_bad_count (lo := 0) (hi := 8) hdd3.ok (by omega) (by omega) fun bad2 M4 hd4 hb2 => ?_)
  have hdd4 := hdd3.trans hd4
  push_cast []
  refine ⟨by omega, ?_⟩
  push_cast []
  refine up_of (p_bad_lengths hdd4.ok (by omega) fun x1 due1 M5 hd5 hb1 => ?_)
  have hdd5 := hdd4.trans hd5
  push_cast []
  refine up_of (p_bad_lengths hdd5.ok (by omega) fun x2 due2 M6 hd6 hbb2 => ?_)
  have hdd6 := hdd5.trans hd6
  push_cast []
  have e3 : [Dt.tup [x1, due1], Dt.tup [x2, due2], Dt.tup [Dt.lst (bad :: (lenD' ks ++ [bad2])), Dt.tup [Dt.str (Str.ofString "BadCount"), bad, Dt.int 0, Dt.int 8]]] = [(x1, due1), (x2, due2), (Dt.lst (bad :: (lenD' ks ++ [bad2])), Dt.tup [Dt.str (Str.ofString "BadCount"), bad, Dt.int 0, Dt.int 8])].map fun p : Dt × Dt => Dt.tup [p.1, p.2] := rfl
  rw [e3]
  refine for_map (e := fun p : Dt × Dt => Dt.tup [p.1, p.2]) (fun rest ds M' => M' = M6 ∧ (∃ z9, ds = [some (Dt.cel a), some (Dt.int ↑w), some (Dt.int ↑r), some (planD w r S), some (Dt.lst (lenD' ks)), some (Dt.str (dg t)), some (Dt.str (mkS z)), some bad, some (Dt.lst (bad :: (lenD' ks ++ [bad2]))), z9]) ∧ ∀ p ∈ rest, BadL M6 r p.1 p.2) (fun p rest ds M' N hN hI => ?_) (fun ds M' hI => ?_) _ _ _ ⟨rfl, ⟨_, rfl⟩, ?_⟩
  · obtain ⟨rfl, ⟨z9, rfl⟩, hp⟩ := hI
    have hb := hp p List.mem_cons_self
    refine ⟨trivial, ?_⟩
    push_cast []
    refine ⟨_, fun _ _ h => h, fun fa => up_of (den_anew hb ?_)⟩
    push_cast []
    refine ⟨_, fun _ _ h => h, fun fa => up_of (den_str hw hr hS ht hcl hb ?_)⟩
    push_cast []
    refine ⟨_, fun _ _ h => h, fun fa => up_of (den_row hw hr hz (by omega) ?_)⟩
    push_cast []
    exact hN _ _ ⟨rfl, ⟨_, rfl⟩, fun q hq => hp q (List.mem_cons_of_mem _ hq)⟩
  · obtain ⟨rfl, ⟨z9, rfl⟩, _⟩ := hI
    refine ⟨trivial, ?_⟩
    push_cast []
    refine ⟨Q, fun _ _ h => h, fun fa => up_of (den_row hw hr hz (by omega) ?_)⟩
    exact h M' hdd6
  · intro p hp
    rcases List.mem_cons.mp hp with rfl | hp
    · exact hb1 M6 hd6
    rcases List.mem_cons.mp hp with rfl | hp
    · exact hbb2 M6 (Dr.refl hd6.ok)
    rcases List.mem_cons.mp hp with rfl | hp
    · exact .inl ⟨[], bad, lenD' ks ++ [bad2], .inl rfl, (fun _ h => by cases h), hb, rfl⟩
    · cases hp
theorem p_law {xs : List Int} (hl : xs.length ≤ 63) (h : ∀ M', Q (.bl true) M') : f_law [.ro (xs.map .int)] M Q X := by
  push_cast [f_law, b_law]
  refine up_of (p_store (by omega) fun a ha M1 hfr hM1 => ?_)
  push_cast []
  refine up_of (p_take hM1 (by decide) fun k M2 hd2 h0 h1 => ?_)
  push_cast []
  have hint : ∀ (b : Bool) (Q' : DQ), Q' (.int (if b = true then 1 else 0)) M2 → dInt [.bl b] M2 Q' := fun b Q' h => h
  refine hint _ _ ?_
  have htop : ∀ R : DQ, (∀ top : Int, 1 ≤ top → R (.int top) M2) → dIx (.lst [.int 64, .int 256]) (.int (if decide (k = 0) = true then 1 else 0)) M2 R := fun R hR => by
    by_cases c : k = 0
    · rw [if_pos (by simpa using c)]
      push_cast []
      exact hR 256 (by decide)
    · rw [if_neg (by simpa using c)]
      push_cast []
      exact hR 64 (by decide)
  refine htop _ fun top ht => ?_
  refine up_of (p_shape hd2.ok ht fun w r M3 hd3 hw hr => ?_)
  have h8 := mostR_le (w := w)
  have w5 := hw.2
  push_cast []
  refine up_of (p_lengths hd3.ok (by omega) fun ks M4 hd4 hL hk => ?_)
  push_cast []
  refine up_of (p_lengths hd4.ok (by omega) fun ks2 M5 hd5 hL2 hk2 => ?_)
  push_cast []
  refine up_of (p_dealt_all hd5.ok hw hr fun S M6 hd6 hS => ?_)
  push_cast []
  refine up_of (p_dealt_all hd6.ok hw hr fun S2 M7 hd7 hS2 => ?_)
  push_cast []
  refine up_of (p_passed hd7.ok hw hr hS fun ys1 M8 hd8 hy1 => ?_)
  push_cast []
  intro p1 hp1
  refine up_of (p_Plan_init hw hr hS (by decide) (hy1.imp fun s d hd => ?_) mput_same fun Mx1 hfx1 hMx1 => ?_)
  · obtain ⟨ds, e, h⟩ := hd
    exact ⟨ds, .inl e, h⟩
  push_cast [hMx1]
  refine ⟨_, rfl, ?_⟩
  rw [mdel_back (d := .non) hp1 hfx1 fun b hb => mput_ne hb]
  push_cast []
  push_cast []
  refine up_of (p_passed hd8.ok hw hr hS2 fun ys2 M9 hd9 hy2 => ?_)
  push_cast []
  intro p2 hp2
  refine up_of (p_Plan_init hw hr hS2 (by decide) (hy2.imp fun s d hd => ?_) mput_same fun Mx2 hfx2 hMx2 => ?_)
  · obtain ⟨ds, e, h⟩ := hd
    exact ⟨ds, .inl e, h⟩
  push_cast [hMx2]
  refine ⟨_, rfl, ?_⟩
  rw [mdel_back (d := .non) hp2 hfx2 fun b hb => mput_ne hb]
  push_cast []
  refine up_of (p_one hd9.ok hw hr hS hL hk fun M10 hd10 => ?_)
  push_cast []
  refine up_of (p_one hd10.ok hw hr hS2 hL2 hk2 fun M11 hd11 => ?_)
  push_cast []
  refine up_of (p_wrong hd11.ok hw hr hS hL2 hk2 fun M12 hd12 => ?_)
  push_cast []
  refine up_of (p_one hd12.ok hw hr hS hL2 hk2 fun M13 hd13 => ?_)
  push_cast []
  refine up_of (p_one hd13.ok hw hr hS2 hL hk fun M14 hd14 => ?_)
  exact h M14
end
end LK
set_option Elab.async false
set_option linter.all false
set_option maxRecDepth 100000
set_option maxHeartbeats 4000000
namespace LK
open PySem PySem.Spec PyProof.Rows L2 DL
theorem facts {w : World} {mg : Str → Option Value} {fa : Addr} {h : Heap} (Y : ∃ K : PySem.W.Frag, K.In h ∧ EL.Says exb fn tf h K) (G : h.Ns mainGlobals mg) (hfa : mg ("law" : Str) = some (.ref fa)) : ∃ K : PySem.W.Frag, K.In h ∧ LamX.LawAtS PySem.Challenge.rw_notbehind_k75_anew_plays_each_stretch_al w K (L2N.CX R.prog w) 13 63 "_law_script" mg fa h := by
  obtain ⟨K, KX, S⟩ := Y
  have c : C K mg := ⟨h, KX, G, S⟩
  have e := hfa.symm.trans c.g_law
  cases e
  obtain ⟨fd, F⟩ := c.def_ 88
  have b := FunD.bindsA (ps := ["_law_script"]) F fun _ _ _ _ _ _ us hl => match us, hl with | [_], _ => rfl
  have etf : lamC K = tf.map fun t => EL.ctA K (t K) := rfl
  refine ⟨K, KX, fd, lamC K, spOfT K (lamT K) f_law, fun p hp => ?_, fun p hp => ?_, fun p hp => ?_, fun s v => b s [v] rfl, fun H a ns hl _ hT hS => ?_, fun base X1 G1 tb => ?_⟩
  · rw [etf] at hp
    obtain ⟨t, ht, rfl⟩ := List.mem_map.mp hp
    exact (S.tabs t ht).2.2
  · rw [etf] at hp
    obtain ⟨t, ht, rfl⟩ := List.mem_map.mp hp
    exact (S.tabs t ht).2.1
  · rw [etf] at hp
    obtain ⟨t, ht, rfl⟩ := List.mem_map.mp hp
    exact PySem.W.codeHd_of_K KX (S.tabs t ht).1
  · refine sp_of_law (fun p hp => ?_) hS (p_law hl fun _ => rfl)
    obtain ⟨f, hf, rfl⟩ := List.mem_map.mp hp
    exact hT _ (List.mem_map.mpr ⟨f, hf, rfl⟩)
  · exact def_okL F s_law (w_law c tb)
theorem noX {P : Program} {w : World} {H : Hp} {s : Shared} {e : Value} {s' : Shared} (h : L2N.CX P w [] H s (fun _ _ _ => False) e s') : False := by
  obtain ⟨_, _, _, _, _, _, _, _, _, _, _, _, hE⟩ := h
  exact hE
end LK
open PySem PySem.W PySem.Calls PyProof.Rows
set_option maxHeartbeats 0
theorem PySem.Challenge.cw_notbehind_k75_anew_plays_each_stretch_al_holds : PySem.Challenge.rw_notbehind_k75_anew_plays_each_stretch_al.Holds := by
  w_on; o_law
  refine HandSHeadRun.head_any (r := LK.R) (q := view LK.R.prog [102]) (H := EL.hook LK.exb LK.fn LK.tf) (ob := EL.obsT LK.exb LK.fn LK.tf) (M := 20000) (loose := LK.names) (d := HandSHeadRun.topDef LK.R.prog 102) (kwd := []) EL.obsT_eq
    (by kernel_rfl) (fun s => by kernel_rfl) LK.run (by kernel_rfl) (by kernel_rfl) (by kernel_rfl) (by rfl) (by first | assumption | decide +kernel) (by decide +kernel) ⟨rfl, rfl, rfl, rfl, rfl, by decide +kernel⟩ ?hw ?hc
  case hw => w_witness2
  case hc =>
    refine LamX.walk_ofTsE (l := PySem.Challenge.rw_notbehind_k75_anew_plays_each_stretch_al) (n := 63) (k := 13) (x := "_law_script") (CX := fun w => L2N.CX LK.R.prog w) rfl (by decide) (by kernel_rfl) ⟨rfl, by decide, by decide⟩ ?F (fun _ _ _ _ _ z => LK.noX z)
    intro w mg fa h Y G hmg0
    have hmg : mg ("law" : PySem.Str) = some (.ref fa) := by
      have e : (HandSHeadRun.topDef LK.R.prog 102).name = ("law" : PySem.Str) := by kernel_rfl
      rw [← e]
      exact hmg0
    exact LK.facts Y G hmg
