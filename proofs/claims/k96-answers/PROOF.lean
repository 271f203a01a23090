import PyProof.Rows.All
import HandS.ForMost
import HandS.Wide
import HandS.TupAny
import HandS.TupMul
import HandS.TupLen
import HandS.TupLe
import HandS.IsInst
import HandS.Conv
import HandS.Deep
import HandS.Style
import HandS.Rev
import PyProof.SumWalkG
import PyProof.WalksMore
import KE.GoesMore
import HandS.SortInts
import HandS.Zip
import HandS.SortOrd
import HandS.DictComp
import PyProof.Rows.Chain
import PyProof.RangeFor
import Wide.All
import OpenK.AllK
import Wide.FinOn
import PySem.Challenge.RW_throwstold_k96_whole_answers_and_races
set_option Elab.async false
set_option linter.all false
set_option maxRecDepth 100000
namespace DL
open PySem PySem.Spec L2
set_option autoImplicit false

/-- plain data: what a value of the program is worth, tuples and settled lists by what is in them -/
inductive D where
  | non | bl (b : Bool) | int (i : Int) | str (x : Str)
  | tup (l : List D) | lst (l : List D) | scr (l : List D)
  | dk (kvs : List (Key × D)) | dt (kvs : List (List Key × D))
  | ins (C : Addr) (fs : List (Str × D))
  | fn (f : Addr)
  | rg (lo hi : Int)

mutual
inductive Rep (K : PySem.W.Frag) (G : Hp) : V → D → Prop
  | non : Rep K G .non .non
  | bl (b : Bool) : Rep K G (.bl b) (.bl b)
  | int (i : Int) : Rep K G (.int i) (.int i)
  | str (x : Str) : Rep K G (.str x) (.str x)
  | tup {a : Addr} {xs : List V} {ds : List D} : SqT K G a xs → RepL K G xs ds → Rep K G (.ref a) (.tup ds)
  | lst {a : Addr} {xs : List V} {ds : List D} : G a = some (.lst xs) → RepL K G xs ds → Rep K G (.ref a) (.lst ds)
  | scr {a : Addr} {xs : List V} {ds : List D} : SqL K G a xs → RepL K G xs ds → Rep K G (.ref a) (.scr ds)
  | dk {a : Addr} {kw : List (Key × V)} {kv : List (Key × D)} : Rd G a (.dK kw) → kw.map Prod.fst = kv.map Prod.fst → RepL K G (kw.map Prod.snd) (kv.map Prod.snd) → Rep K G (.ref a) (.dk kv)
  | dt {a : Addr} {kw : List (List Key × V)} {kv : List (List Key × D)} : Rd G a (.dT kw) → kw.map Prod.fst = kv.map Prod.fst → RepL K G (kw.map Prod.snd) (kv.map Prod.snd) → Rep K G (.ref a) (.dt kv)
  | ins {a C dx : Addr} {fw : List (Str × V)} {fs : List (Str × D)} : G a = some (.ins C dx fw) → fw.map Prod.fst = fs.map Prod.fst → RepL K G (fw.map Prod.snd) (fs.map Prod.snd) → Rep K G (.ref a) (.ins C fs)
  | fn (f : Addr) : Rep K G (.ref f) (.fn f)
  | rg {a : Addr} {lo hi : Int} : G a = some (.rng lo hi) → Rep K G (.ref a) (.rg lo hi)
inductive RepL (K : PySem.W.Frag) (G : Hp) : List V → List D → Prop
  | nil : RepL K G [] []
  | cons {v : V} {vs : List V} {d : D} {ds : List D} : Rep K G v d → RepL K G vs ds → RepL K G (v :: vs) (d :: ds)
end

def Ex : HO → Prop
  | .dK _ => False
  | .dT _ => False
  | .frz _ (.dK _) => False
  | .frz _ (.dT _) => False
  | _ => True
/-- what can be read stays -/
structure VleW (G G' : Hp) : Prop where
  ex : ∀ a u, Ex u → G a = some u → G' a = some u
  dk : ∀ a kw, Rd G a (.dK kw) → Rd G' a (.dK kw)
  dt : ∀ a kw, Rd G a (.dT kw) → Rd G' a (.dT kw)
/-- what can be seen stays -/
structure Vle (G G' : Hp) : Prop extends VleW G G' where
  fk : ∀ a o kw, G a = some (.frz o (.dK kw)) → G' a = some (.frz o (.dK kw))
  ft : ∀ a o kw, G a = some (.frz o (.dT kw)) → G' a = some (.frz o (.dT kw))
theorem VleW.trans {G G1 G2 : Hp} (a : VleW G G1) (b : VleW G1 G2) : VleW G G2 := ⟨fun c u d h => b.ex c u d (a.ex c u d h), fun c kw h => b.dk c kw (a.dk c kw h), fun c kw h => b.dt c kw (a.dt c kw h)⟩
theorem Vle.refl (G : Hp) : Vle G G := ⟨⟨fun _ _ _ h => h, fun _ _ h => h, fun _ _ h => h⟩, fun _ _ _ h => h, fun _ _ _ h => h⟩
theorem Vle.trans {G G1 G2 : Hp} (a : Vle G G1) (b : Vle G1 G2) : Vle G G2 := ⟨a.toVleW.trans b.toVleW, fun c o kw h => b.fk c o kw (a.fk c o kw h), fun c o kw h => b.ft c o kw (a.ft c o kw h)⟩
theorem rd_sub {G G' : Hp} (h : ∀ a u, G a = some u → G' a = some u) {a : Addr} {u : HO} (r : Rd G a u) : Rd G' a u := r.elim (fun e => .inl (h _ _ e)) fun ⟨o, e⟩ => .inr ⟨o, h _ _ e⟩
theorem Vle.sub {G G' : Hp} (h : ∀ a u, G a = some u → G' a = some u) : Vle G G' := ⟨⟨fun a u _ e => h _ _ e, fun _ _ r => rd_sub h r, fun _ _ r => rd_sub h r⟩, fun _ _ _ e => h _ _ e, fun _ _ _ e => h _ _ e⟩
theorem SqT.leW {K : PySem.W.Frag} {G G' : Hp} (m : VleW G G') {a : Addr} {xs : List V} (h : SqT K G a xs) : SqT K G' a xs :=
  h.elim (fun r => .inl (r.elim (fun e => .inl (m.ex _ _ trivial e)) fun ⟨o, e⟩ => .inr ⟨o, m.ex _ _ trivial e⟩)) .inr
theorem SqL.leW {K : PySem.W.Frag} {G G' : Hp} (m : VleW G G') {a : Addr} {xs : List V} (h : SqL K G a xs) : SqL K G' a xs :=
  h.elim (fun r => .inl (r.elim (fun e => .inl (m.ex _ _ trivial e)) fun ⟨o, e⟩ => .inr ⟨o, m.ex _ _ trivial e⟩)) .inr
mutual
theorem Rep.leW {K : PySem.W.Frag} {G G' : Hp} (m : VleW G G') : ∀ {v : V} {d : D}, Rep K G v d → Rep K G' v d
  | _, _, .non => .non
  | _, _, .bl b => .bl b
  | _, _, .int i => .int i
  | _, _, .str x => .str x
  | _, _, .tup s r => .tup (SqT.leW m s) (RepL.leW m r)
  | _, _, .lst s r => .lst (m.ex _ _ trivial s) (RepL.leW m r)
  | _, _, .scr s r => .scr (SqL.leW m s) (RepL.leW m r)
  | _, _, .dk s e r => .dk (m.dk _ _ s) e (RepL.leW m r)
  | _, _, .dt s e r => .dt (m.dt _ _ s) e (RepL.leW m r)
  | _, _, .ins s e r => .ins (m.ex _ _ trivial s) e (RepL.leW m r)
  | _, _, .fn f => .fn f
  | _, _, .rg s => .rg (m.ex _ _ trivial s)
theorem RepL.leW {K : PySem.W.Frag} {G G' : Hp} (m : VleW G G') : ∀ {vs : List V} {ds : List D}, RepL K G vs ds → RepL K G' vs ds
  | _, _, .nil => .nil
  | _, _, .cons h t => .cons (Rep.leW m h) (RepL.leW m t)
end
theorem Rep.le {K : PySem.W.Frag} {G G' : Hp} (m : Vle G G') {v : V} {d : D} (h : Rep K G v d) : Rep K G' v d := Rep.leW m.toVleW h
theorem RepL.le {K : PySem.W.Frag} {G G' : Hp} (m : Vle G G') {vs : List V} {ds : List D} (h : RepL K G vs ds) : RepL K G' vs ds := RepL.leW m.toVleW h
section
variable {K : PySem.W.Frag} {G : Hp}
theorem RepL.length : ∀ {vs : List V} {ds : List D}, RepL K G vs ds → vs.length = ds.length
  | _, _, .nil => rfl
  | _, _, .cons _ t => congrArg (· + 1) (RepL.length t)
theorem RepL.get : ∀ {vs : List V} {ds : List D} {i : Nat} {d : D}, RepL K G vs ds → ds[i]? = some d → ∃ v, vs[i]? = some v ∧ Rep K G v d
  | _, _, _, _, .nil, e => by simp at e
  | _, _, 0, _, .cons h _, e => by simp at e; subst e; exact ⟨_, rfl, h⟩
  | _, _, i + 1, d, .cons _ t, e => by
    obtain ⟨v, h1, h2⟩ := RepL.get (i := i) (d := d) t (by simpa using e)
    exact ⟨v, by simpa using h1, h2⟩
theorem RepL.append : ∀ {vs ws : List V} {ds es : List D}, RepL K G vs ds → RepL K G ws es → RepL K G (vs ++ ws) (ds ++ es)
  | _, _, _, _, .nil, s => s
  | _, _, _, _, .cons h t, s => .cons h (RepL.append t s)
theorem RepL.take : ∀ {vs : List V} {ds : List D} (n : Nat), RepL K G vs ds → RepL K G (vs.take n) (ds.take n)
  | _, _, 0, _ => .nil
  | _, _, _ + 1, .nil => .nil
  | _, _, n + 1, .cons h t => .cons h (RepL.take n t)
theorem RepL.drop : ∀ {vs : List V} {ds : List D} (n : Nat), RepL K G vs ds → RepL K G (vs.drop n) (ds.drop n)
  | _, _, 0, r => r
  | _, _, _ + 1, .nil => .nil
  | _, _, n + 1, .cons _ t => RepL.drop n t
theorem RepL.set {v : V} {d : D} (r : Rep K G v d) : ∀ {vs : List V} {ds : List D} (i : Nat), RepL K G vs ds → RepL K G (vs.set i v) (ds.set i d)
  | _, _, _, .nil => .nil
  | _, _, 0, .cons _ t => .cons r t
  | _, _, i + 1, .cons q t => .cons q (RepL.set r i t)
theorem RepL.reverse : ∀ {vs : List V} {ds : List D}, RepL K G vs ds → RepL K G vs.reverse ds.reverse
  | _, _, .nil => .nil
  | _, _, .cons h t => by
    rw [List.reverse_cons, List.reverse_cons]
    exact (RepL.reverse t).append (.cons h .nil)
theorem RepL.ints : ∀ (ns : List Int), RepL K G (ns.map V.int) (ns.map D.int)
  | [] => .nil
  | n :: r => .cons (.int n) (RepL.ints r)
end

/-- an object that a slot owns: its content -/
def HRep (K : PySem.W.Frag) (G : Hp) : HO → D → Prop
  | .lst xs, .lst ds => RepL K G xs ds
  | .dK kw, .dk kv => kw.map Prod.fst = kv.map Prod.fst ∧ RepL K G (kw.map Prod.snd) (kv.map Prod.snd)
  | .dT kw, .dt kv => kw.map Prod.fst = kv.map Prod.fst ∧ RepL K G (kw.map Prod.snd) (kv.map Prod.snd)
  | _, _ => False
theorem HRep.leW {K : PySem.W.Frag} {G G' : Hp} (m : VleW G G') {o : HO} {d : D} (h : HRep K G o d) : HRep K G' o d := by
  cases o <;> cases d <;> first | exact h.elim | exact RepL.leW m h | exact ⟨h.1, RepL.leW m h.2⟩
theorem HRep.le {K : PySem.W.Frag} {G G' : Hp} (m : Vle G G') {o : HO} {d : D} (h : HRep K G o d) : HRep K G' o d := HRep.leW m.toVleW h
theorem HRep.rep {K : PySem.W.Frag} {G : Hp} {o : HO} {d : D} {a : Addr} (h : HRep K G o d) (e : G a = some o) : Rep K G (.ref a) d := by
  cases o <;> cases d <;> first
    | exact h.elim
    | exact .lst e h
    | exact .dk (.inl e) h.1 h.2
    | exact .dt (.inl e) h.1 h.2
/-- a slot's worth: data, or an object that it alone owns -/
inductive SV where
  | v (d : D) | o (b : Bool) (d : D)
abbrev Env' := List (Option SV)
abbrev Fr0 := Addr → Prop
def OwnAt (ρ : Env') (σ : St) (a : Addr) : Prop := ∃ (i : Nat) (b : Bool) (d : D), ρ[i]? = some (some (SV.o b d)) ∧ σ[i]? = some (some (V.ref a))
open Classical in
noncomputable def hid (F : Fr0) (H : Hp) : Hp := fun a => if F a then none else H a
theorem hid_in {F : Fr0} {H : Hp} {a : Addr} (h : F a) : hid F H a = none := if_pos h
theorem hid_out {F : Fr0} {H : Hp} {a : Addr} (h : ¬ F a) : hid F H a = H a := if_neg h
theorem hid_some {F : Fr0} {H : Hp} {a : Addr} {u : HO} (h : hid F H a = some u) : H a = some u ∧ ¬ F a := by
  by_cases e : F a
  · rw [hid_in e] at h; cases h
  · rw [hid_out e] at h; exact ⟨h, e⟩
def fo (F : Fr0) (ρ : Env') (σ : St) : Fr0 := fun a => F a ∨ OwnAt ρ σ a
noncomputable abbrev vis (F : Fr0) (ρ : Env') (σ : St) (H : Hp) : Hp := hid (fo F ρ σ) H
theorem vis_out {F : Fr0} {ρ : Env'} {σ : St} {H : Hp} {a : Addr} (h : ¬ fo F ρ σ a) : vis F ρ σ H a = H a := if_neg h
theorem vis_in {F : Fr0} {ρ : Env'} {σ : St} {H : Hp} {a : Addr} (h : fo F ρ σ a) : vis F ρ σ H a = none := if_pos h
def Keep (F : Fr0) (H H' : Hp) : Prop := ∀ a, F a → H' a = H a
theorem Keep.refl (F : Fr0) (H : Hp) : Keep F H H := fun _ _ => rfl
theorem Keep.trans {F : Fr0} {H H1 H2 : Hp} (a : Keep F H H1) (b : Keep F H1 H2) : Keep F H H2 := fun c h => (b c h).trans (a c h)

structure Rel (K : PySem.W.Frag) (F : Fr0) (ρ : Env') (σ : St) (H : Hp) : Prop where
  len : σ.length = ρ.length
  val : ∀ (i : Nat) (d : D), ρ[i]? = some (some (.v d)) → ∃ v, σ[i]? = some (some v) ∧ Rep K (vis F ρ σ H) v d
  own : ∀ (i : Nat) (b : Bool) (d : D), ρ[i]? = some (some (.o b d)) → ∃ a o, σ[i]? = some (some (.ref a)) ∧ H a = some o ∧ HRep K (vis F ρ σ H) o d ∧ ¬ F a
  inj : ∀ (i j : Nat) (a : Addr) (b c : Bool) (d e : D), ρ[i]? = some (some (.o b d)) → ρ[j]? = some (some (.o c e)) → σ[i]? = some (some (.ref a)) → σ[j]? = some (some (.ref a)) → i = j
  alo : ∀ a, F a → H a ≠ none

/-- slots whose object is a caller's keep it -/
def Pins (ρ ρ' : Env') (σ σ' : St) : Prop := ∀ (i : Nat) (d : D), ρ[i]? = some (some (.o true d)) → (∃ d', ρ'[i]? = some (some (.o true d'))) ∧ σ'[i]? = σ[i]?
theorem Pins.refl (ρ : Env') (σ : St) : Pins ρ ρ σ σ := fun _ d h => ⟨⟨d, h⟩, rfl⟩
theorem Pins.trans {ρ ρ1 ρ2 : Env'} {σ σ1 σ2 : St} (a : Pins ρ ρ1 σ σ1) (b : Pins ρ1 ρ2 σ1 σ2) : Pins ρ ρ2 σ σ2 := fun i d h => by
  obtain ⟨⟨d1, h1⟩, e1⟩ := a i d h
  obtain ⟨h2, e2⟩ := b i d1 h1
  exact ⟨h2, e2.trans e1⟩
/-- one step within an expression: the slots stay, their worth may change -/
structure Stp (K : PySem.W.Frag) (F : Fr0) (ρ ρ' : Env') (σ σ' : St) (H H' : Hp) : Prop where
  rel : Rel K F ρ' σ' H'
  keep : Keep F H H'
  vle : Vle (vis F ρ σ H) (vis F ρ' σ' H')
  pin : Pins ρ ρ' σ σ'
theorem Stp.refl {K : PySem.W.Frag} {F : Fr0} {ρ : Env'} {σ : St} {H : Hp} (h : Rel K F ρ σ H) : Stp K F ρ ρ σ σ H H := ⟨h, .refl _ _, .refl _, .refl _ _⟩
theorem Stp.trans {K : PySem.W.Frag} {F : Fr0} {ρ ρ1 ρ2 : Env'} {σ σ1 σ2 : St} {H H1 H2 : Hp} (a : Stp K F ρ ρ1 σ σ1 H H1) (b : Stp K F ρ1 ρ2 σ1 σ2 H1 H2) : Stp K F ρ ρ2 σ σ2 H H2 :=
  ⟨b.rel, a.keep.trans b.keep, a.vle.trans b.vle, a.pin.trans b.pin⟩

/-- what an expression is worth: data, or the object of a slot -/
inductive A where
  | v (d : D) | s (i : Nat)
def RepA (K : PySem.W.Frag) (G : Hp) (σ : St) (v : V) : A → Prop
  | .v d => Rep K G v d
  | .s i => σ[i]? = some (some v)
theorem RepA.le {K : PySem.W.Frag} {G G' : Hp} (m : Vle G G') {σ : St} {v : V} {a : A} (h : RepA K G σ v a) : RepA K G' σ v a := by
  cases a with
  | v d => exact Rep.le m h
  | s i => exact h
/-- what stands there now -/
def deref (ρ : Env') : A → Option D
  | .v d => some d
  | .s i => match ρ[i]? with
    | some (some (.v d)) => some d
    | some (some (.o _ d)) => some d
    | _ => none
/-- as data: a slot's own object is given up -/
def toV (ρ : Env') : A → Option (D × Env')
  | .v d => some (d, ρ)
  | .s i => match ρ[i]? with
    | some (some (.v d)) => some (d, ρ)
    | some (some (.o false d)) => some (d, ρ.set i (some (.v d)))
    | _ => none

/-- data whose own top may be hidden -/
inductive Top (K : PySem.W.Frag) (H G : Hp) : V → D → Prop
  | rep {v : V} {d : D} : Rep K G v d → Top K H G v d
  | own {a : Addr} {o : HO} {d : D} : H a = some o → HRep K G o d → Top K H G (.ref a) d

theorem vis_sub {F : Fr0} {ρ : Env'} {σ : St} {H : Hp} {a : Addr} {u : HO} (h : vis F ρ σ H a = some u) : H a = some u := (hid_some h).1
theorem rd_vis {F : Fr0} {H : Hp} {a : Addr} {u : HO} (h : Rd (hid F H) a u) : Rd H a u := h.elim (fun e => .inl (hid_some e).1) fun ⟨o, e⟩ => .inr ⟨o, (hid_some e).1⟩
theorem sqL_vis {K : PySem.W.Frag} {F : Fr0} {H : Hp} {a : Addr} {xs : List V} (h : SqL K (hid F H) a xs) : SqL K H a xs := h.elim (fun e => .inl (rd_vis e)) .inr
theorem sqT_vis {K : PySem.W.Frag} {F : Fr0} {H : Hp} {a : Addr} {xs : List V} (h : SqT K (hid F H) a xs) : SqT K H a xs := h.elim (fun e => .inl (rd_vis e)) .inr
section
variable {K : PySem.W.Frag} {F : Fr0} {ρ : Env'} {σ : St} {H : Hp} {v : V} {x : A} {d : D}
theorem Rel.top (R : Rel K F ρ σ H) (r : RepA K (vis F ρ σ H) σ v x) (e : deref ρ x = some d) : Top K H (vis F ρ σ H) v d := by
  cases x with
  | v d' => cases e; exact .rep r
  | s i =>
    simp only [deref] at e
    have r' : σ[i]? = some (some v) := r
    split at e
    · rename_i h
      cases Option.some.inj e
      obtain ⟨v', h1, h2⟩ := R.val i _ h
      rw [r'] at h1
      cases h1
      exact .rep h2
    · rename_i h
      cases Option.some.inj e
      obtain ⟨a, o, h1, h2, h3, _⟩ := R.own i _ _ h
      rw [r'] at h1
      cases h1
      exact .own h2 h3
    · cases e
theorem Top.lst {ds : List D} (t : Top K H (hid F H) v (.lst ds)) : ∃ a xs, v = .ref a ∧ H a = some (.lst xs) ∧ RepL K (hid F H) xs ds := by
  cases t with
  | rep r =>
    cases r with
    | lst s r => exact ⟨_, _, rfl, (hid_some s).1, r⟩
  | own e h =>
    rename_i a o
    cases o with
    | lst xs => exact ⟨_, _, rfl, e, h⟩
    | _ => exact h.elim
theorem Top.scr {ds : List D} (t : Top K H (hid F H) v (.scr ds)) : ∃ a xs, v = .ref a ∧ SqL K H a xs ∧ RepL K (hid F H) xs ds := by
  cases t with
  | rep r =>
    cases r with
    | scr s r => exact ⟨_, _, rfl, sqL_vis s, r⟩
  | own e h =>
    rename_i a o
    cases o <;> exact h.elim
theorem Top.ins {C : Addr} {fs : List (Str × D)} (t : Top K H (hid F H) v (.ins C fs)) : ∃ a dx fw, v = .ref a ∧ H a = some (.ins C dx fw) ∧ fw.map Prod.fst = fs.map Prod.fst ∧ RepL K (hid F H) (fw.map Prod.snd) (fs.map Prod.snd) := by
  cases t with
  | rep r =>
    cases r with
    | ins s e r => exact ⟨_, _, _, rfl, (hid_some s).1, e, r⟩
  | own e h =>
    rename_i a o
    cases o <;> exact h.elim
theorem Top.rg {lo hi : Int} (t : Top K H (hid F H) v (.rg lo hi)) : ∃ a, v = .ref a ∧ H a = some (.rng lo hi) ∧ hid F H a = some (.rng lo hi) := by
  cases t with
  | rep r => cases r with | rg s => exact ⟨_, rfl, (hid_some s).1, s⟩
  | own e h => rename_i a o; cases o <;> exact h.elim
theorem Top.fn {f : Addr} (t : Top K H (hid F H) v (.fn f)) : v = .ref f := by
  cases t with
  | rep r => cases r; rfl
  | own e h => rename_i a o; cases o <;> exact h.elim
theorem Top.tup {ds : List D} (t : Top K H (hid F H) v (.tup ds)) : ∃ a xs, v = .ref a ∧ SqT K H a xs ∧ RepL K (hid F H) xs ds := by
  cases t with
  | rep r =>
    cases r with
    | tup s r => exact ⟨_, _, rfl, sqT_vis s, r⟩
  | own e h =>
    rename_i a o
    cases o <;> exact h.elim
theorem Top.dk {kv : List (Key × D)} (t : Top K H (hid F H) v (.dk kv)) : ∃ a kw, v = .ref a ∧ Rd H a (.dK kw) ∧ kw.map Prod.fst = kv.map Prod.fst ∧ RepL K (hid F H) (kw.map Prod.snd) (kv.map Prod.snd) := by
  cases t with
  | rep r =>
    cases r with
    | dk s e r => exact ⟨_, _, rfl, rd_vis s, e, r⟩
  | own e h =>
    rename_i a o
    cases o with
    | dK xs => exact ⟨_, _, rfl, .inl e, h.1, h.2⟩
    | _ => exact h.elim
theorem Top.dt {kv : List (List Key × D)} (t : Top K H (hid F H) v (.dt kv)) : ∃ a kw, v = .ref a ∧ Rd H a (.dT kw) ∧ kw.map Prod.fst = kv.map Prod.fst ∧ RepL K (hid F H) (kw.map Prod.snd) (kv.map Prod.snd) := by
  cases t with
  | rep r =>
    cases r with
    | dt s e r => exact ⟨_, _, rfl, rd_vis s, e, r⟩
  | own e h =>
    rename_i a o
    cases o with
    | dT xs => exact ⟨_, _, rfl, .inl e, h.1, h.2⟩
    | _ => exact h.elim
theorem Top.int {i : Int} (t : Top K H (hid F H) v (.int i)) : v = .int i := by
  cases t with
  | rep r => cases r; rfl
  | own e h => rename_i a o; cases o <;> exact h.elim
theorem Top.bl {i : Bool} (t : Top K H (hid F H) v (.bl i)) : v = .bl i := by
  cases t with
  | rep r => cases r; rfl
  | own e h => rename_i a o; cases o <;> exact h.elim
theorem Top.str {i : Str} (t : Top K H (hid F H) v (.str i)) : v = .str i := by
  cases t with
  | rep r => cases r; rfl
  | own e h => rename_i a o; cases o <;> exact h.elim
theorem Top.non (t : Top K H (hid F H) v .non) : v = .non := by
  cases t with
  | rep r => cases r; rfl
  | own e h => rename_i a o; cases o <;> exact h.elim
end

/-! ### how the state goes on -/
section
variable {K : PySem.W.Frag} {F : Fr0} {ρ : Env'} {σ : St} {H : Hp} {p : Addr} {o : HO}
theorem Rel.ownNone (R : Rel K F ρ σ H) {a : Addr} (h : OwnAt ρ σ a) : H a ≠ none := by
  obtain ⟨i, b, d, h1, h2⟩ := h
  obtain ⟨a', o, h3, h4, _⟩ := R.own i b d h1
  rw [h2] at h3; cases h3
  rw [h4]; intro z; cases z
theorem Rel.foNone (R : Rel K F ρ σ H) {a : Addr} (h : fo F ρ σ a) : H a ≠ none := h.elim (R.alo a) R.ownNone
/-- the same worths in a greater view -/
theorem Rel.move {F' : Fr0} {H' : Hp} (R : Rel K F ρ σ H) (m : VleW (vis F ρ σ H) (vis F' ρ σ H')) (k : ∀ a, OwnAt ρ σ a → H' a = H a) (f : ∀ a, OwnAt ρ σ a → ¬ F a → ¬ F' a) (al : ∀ a, F' a → H' a ≠ none) : Rel K F' ρ σ H' where
  len := R.len
  val := fun i d e => let ⟨v, h1, h2⟩ := R.val i d e; ⟨v, h1, Rep.leW m h2⟩
  own := fun i b d e => let ⟨a, o, h1, h2, h3, h4⟩ := R.own i b d e; ⟨a, o, h1, by rw [k a ⟨i, b, d, e, h1⟩]; exact h2, HRep.leW m h3, f a ⟨i, b, d, e, h1⟩ h4⟩
  inj := R.inj
  alo := al
theorem vle_new {F : Fr0} {H : Hp} (hp : H p = none) : Vle (hid F H) (hid F (upd H p o)) := Vle.sub fun a u e => by
  obtain ⟨h1, h2⟩ := hid_some e
  rw [hid_out h2, upd_ne (ne_of_none h1 hp)]
  exact h1
/-- a new object, seen by all -/
theorem Rel.alloc (R : Rel K F ρ σ H) (hp : H p = none) (o : HO) : Stp K F ρ ρ σ σ H (upd H p o) where
  rel := R.move (vle_new hp).toVleW (fun a h => upd_ne fun e => R.ownNone h (by rw [e]; exact hp)) (fun _ _ h => h) fun a h => by
    rw [upd_ne fun e => R.alo a h (by rw [e]; exact hp)]
    exact R.alo a h
  keep := fun a h => upd_ne fun e => R.alo a h (by rw [e]; exact hp)
  vle := vle_new hp
  pin := .refl _ _
theorem Rel.seen (R : Rel K F ρ σ H) (hp : H p = none) : ¬ fo F ρ σ p := fun h => R.foNone h hp
theorem Rel.sees (R : Rel K F ρ σ H) (hp : H p = none) : vis F ρ σ (upd H p o) p = some o := by
  rw [vis_out (R.seen hp), upd_same]
def fp (F : Fr0) (p : Addr) : Fr0 := fun a => a = p ∨ F a
/-- a new object, hidden -/
theorem Rel.allocF (R : Rel K F ρ σ H) (hp : H p = none) (o : HO) : Rel K (fp F p) ρ σ (upd H p o) ∧ Keep F H (upd H p o) ∧ Vle (vis F ρ σ H) (vis (fp F p) ρ σ (upd H p o)) := by
  have k : Keep F H (upd H p o) := fun a h => upd_ne fun e => R.alo a h (by rw [e]; exact hp)
  have m : Vle (vis F ρ σ H) (vis (fp F p) ρ σ (upd H p o)) := Vle.sub fun a u e => by
    obtain ⟨h1, h2⟩ := hid_some e
    have hne := ne_of_none h1 hp
    rw [vis_out (fun z => z.elim (fun z => z.elim hne fun z => h2 (.inl z)) fun z => h2 (.inr z)), upd_ne hne]
    exact h1
  refine ⟨R.move m.toVleW (fun a h => upd_ne fun e => R.ownNone h (by rw [e]; exact hp)) (fun a h hf z => z.elim (fun e => R.ownNone h (by rw [e]; exact hp)) hf) fun a h => ?_, k, m⟩
  by_cases e : a = p
  · rw [e, upd_same]; intro z; cases z
  · rw [upd_ne e]; exact R.alo a (h.elim (fun z => absurd z e) id)
theorem fo_fp {a : Addr} (h : fo F ρ σ a) : fo (fp F p) ρ σ a := h.elim (fun h => .inl (.inr h)) .inr
theorem vle_unfp {H : Hp} : Vle (vis (fp F p) ρ σ H) (vis F ρ σ H) := Vle.sub fun a u e => by
  obtain ⟨h1, h2⟩ := hid_some e
  rw [vis_out fun z => h2 (fo_fp z)]
  exact h1
/-- a hidden new object is shown -/
theorem Rel.show (R : Rel K (fp F p) ρ σ H) : Rel K F ρ σ H := R.move vle_unfp.toVleW (fun _ _ => rfl) (fun _ _ h z => h (.inr z)) fun a h => R.alo a (.inr h)
/-- the object of slot i is changed -/
theorem Rel.write {i : Nat} {b0 : Bool} {d d' : D} {a : Addr} {o' : HO} (R : Rel K F ρ σ H) (hi : ρ[i]? = some (some (.o b0 d))) (ha : σ[i]? = some (some (.ref a))) (h : HRep K (vis F ρ σ H) o' d') :
    Stp K F ρ (ρ.set i (some (.o b0 d'))) σ σ H (upd H a o') := by
  have hil : i < ρ.length := (List.getElem?_eq_some_iff.mp hi).1
  have own : ∀ b, OwnAt (ρ.set i (some (.o b0 d'))) σ b ↔ OwnAt ρ σ b := fun b => by
    constructor
    · rintro ⟨j, c, e, h1, h2⟩
      by_cases q : i = j
      · subst q; exact ⟨i, b0, d, hi, h2⟩
      · rw [List.getElem?_set_ne q] at h1; exact ⟨j, c, e, h1, h2⟩
    · rintro ⟨j, c, e, h1, h2⟩
      by_cases q : i = j
      · subst q; exact ⟨i, b0, d', by rw [List.getElem?_set_self hil], h2⟩
      · exact ⟨j, c, e, by rw [List.getElem?_set_ne q]; exact h1, h2⟩
  have hown : OwnAt ρ σ a := ⟨i, b0, d, hi, ha⟩
  obtain ⟨a', o0, h3, h4, h5, h6⟩ := R.own i b0 d hi
  rw [ha] at h3; cases h3
  have ev : vis F (ρ.set i (some (.o b0 d'))) σ (upd H a o') = vis F ρ σ H := by
    funext b
    by_cases q : fo F ρ σ b
    · rw [vis_in q, vis_in (q.elim .inl fun z => .inr ((own b).mpr z))]
    · rw [vis_out q, vis_out (fun z => q (z.elim .inl fun z => .inr ((own b).mp z))), upd_ne fun e => q (.inr (by rw [e]; exact hown))]
  refine ⟨⟨by rw [List.length_set]; exact R.len, fun j e h1 => ?_, fun j c e h1 => ?_, fun j k b c c' e f h1 h2 h7 h8 => ?_, fun b hb => ?_⟩, fun b hb => upd_ne fun e => h6 (e ▸ hb), by rw [ev]; exact .refl _, fun j e h1 => ⟨?_, rfl⟩⟩
  · by_cases q : i = j
    · subst q; rw [List.getElem?_set_self hil] at h1; cases h1
    · rw [List.getElem?_set_ne q] at h1
      rw [ev]; exact R.val j e h1
  · by_cases q : i = j
    · subst q; rw [List.getElem?_set_self hil] at h1; cases h1
      exact ⟨a, o', ha, upd_same, by rw [ev]; exact h, h6⟩
    · rw [List.getElem?_set_ne q] at h1
      obtain ⟨b, ob, g1, g2, g3, g4⟩ := R.own j c e h1
      refine ⟨b, ob, g1, ?_, by rw [ev]; exact g3, g4⟩
      rw [upd_ne fun (e2 : b = a) => q (R.inj i j a _ _ _ _ hi h1 ha (e2 ▸ g1))]
      exact g2
  · have lift : ∀ (j : Nat) (c : Bool) (e : D), (ρ.set i (some (.o b0 d')))[j]? = some (some (.o c e)) → ∃ c' e', ρ[j]? = some (some (.o c' e')) := fun j c e z => by
      by_cases q : i = j
      · subst q; exact ⟨b0, d, hi⟩
      · rw [List.getElem?_set_ne q] at z; exact ⟨c, e, z⟩
    obtain ⟨c1, e', h1'⟩ := lift j c e h1
    obtain ⟨c2, f', h2'⟩ := lift k c' f h2
    exact R.inj j k b c1 c2 e' f' h1' h2' h7 h8
  · by_cases q : b = a
    · rw [q, upd_same]; intro z; cases z
    · rw [upd_ne q]; exact R.alo b hb
  · by_cases q : i = j
    · subst q; rw [hi] at h1; cases h1; exact ⟨d', List.getElem?_set_self hil⟩
    · exact ⟨e, by rw [List.getElem?_set_ne q]; exact h1⟩
def pinned (ρ : Env') (i : Nat) : Bool := match ρ[i]? with
  | some (some (.o true _)) => true
  | _ => false
/-- slot i gets data -/
theorem Rel.setV {i : Nat} {d : D} {v : V} (R : Rel K F ρ σ H) (hi : i < ρ.length) (np : pinned ρ i = false) (r : Rep K (vis F ρ σ H) v d) : Stp K F ρ (ρ.set i (some (.v d))) σ (σ.set i (some v)) H H := by
  have hs : i < σ.length := by rw [R.len]; exact hi
  have own : ∀ b, OwnAt (ρ.set i (some (.v d))) (σ.set i (some v)) b → OwnAt ρ σ b := fun b => by
    rintro ⟨j, c, e, h1, h2⟩
    by_cases q : i = j
    · subst q; rw [List.getElem?_set_self hi] at h1; cases h1
    · rw [List.getElem?_set_ne q] at h1 h2; exact ⟨j, c, e, h1, h2⟩
  have m : Vle (vis F ρ σ H) (vis F (ρ.set i (some (.v d))) (σ.set i (some v)) H) := Vle.sub fun b u e => by
    obtain ⟨h1, h2⟩ := hid_some e
    rw [vis_out fun z => h2 (z.elim .inl fun z => .inr (own b z))]
    exact h1
  refine ⟨⟨by rw [List.length_set, List.length_set]; exact R.len, fun j e h1 => ?_, fun j c e h1 => ?_, fun j k b c c' e f h1 h2 h7 h8 => ?_, R.alo⟩, .refl _ _, m, fun j e h1 => ?_⟩
  · by_cases q : i = j
    · subst q; rw [List.getElem?_set_self hi] at h1; cases h1
      exact ⟨v, List.getElem?_set_self hs, Rep.le m r⟩
    · rw [List.getElem?_set_ne q] at h1 ⊢
      obtain ⟨w, g1, g2⟩ := R.val j e h1
      exact ⟨w, g1, Rep.le m g2⟩
  · by_cases q : i = j
    · subst q; rw [List.getElem?_set_self hi] at h1; cases h1
    · rw [List.getElem?_set_ne q] at h1 ⊢
      obtain ⟨w, ob, g1, g2, g3, g4⟩ := R.own j c e h1
      exact ⟨w, ob, g1, g2, HRep.le m g3, g4⟩
  · have nj : i ≠ j := fun q => by subst q; rw [List.getElem?_set_self hi] at h1; cases h1
    have nk : i ≠ k := fun q => by subst q; rw [List.getElem?_set_self hi] at h2; cases h2
    rw [List.getElem?_set_ne nj] at h1 h7
    rw [List.getElem?_set_ne nk] at h2 h8
    exact R.inj j k b c c' e f h1 h2 h7 h8
  · have nj : i ≠ j := fun q => by subst q; rw [pinned, h1] at np; cases np
    exact ⟨⟨e, by rw [List.getElem?_set_ne nj]; exact h1⟩, List.getElem?_set_ne nj⟩
/-- slot i gets the hidden new object at p as its own -/
theorem Rel.setO {i : Nat} {d : D} (R : Rel K (fp F p) ρ σ H) (nf : ¬ F p) (hi : i < ρ.length) (np : pinned ρ i = false) (e : H p = some o) (h : HRep K (vis (fp F p) ρ σ H) o d) :
    Rel K F (ρ.set i (some (.o false d))) (σ.set i (some (.ref p))) H ∧ Vle (vis (fp F p) ρ σ H) (vis F (ρ.set i (some (.o false d))) (σ.set i (some (.ref p))) H) ∧ Pins ρ (ρ.set i (some (.o false d))) σ (σ.set i (some (.ref p))) := by
  have hs : i < σ.length := by rw [R.len]; exact hi
  have own : ∀ b, OwnAt (ρ.set i (some (.o false d))) (σ.set i (some (.ref p))) b → fo (fp F p) ρ σ b := fun b => by
    rintro ⟨j, c, e, h1, h2⟩
    by_cases q : i = j
    · subst q; rw [List.getElem?_set_self hs] at h2; cases h2; exact .inl (.inl rfl)
    · rw [List.getElem?_set_ne q] at h1 h2; exact .inr ⟨j, c, e, h1, h2⟩
  have m : Vle (vis (fp F p) ρ σ H) (vis F (ρ.set i (some (.o false d))) (σ.set i (some (.ref p))) H) := Vle.sub fun b u e => by
    obtain ⟨h1, h2⟩ := hid_some e
    rw [vis_out fun z => h2 (z.elim (fun z => .inl (.inr z)) fun z => own b z)]
    exact h1
  have nown : ∀ (j : Nat) (c : Bool) (e : D), ρ[j]? = some (some (.o c e)) → σ[j]? ≠ some (some (.ref p)) := fun j c e h1 h2 => by
    obtain ⟨a, ob, g1, g2, g3, g4⟩ := R.own j c e h1
    rw [h2] at g1; cases g1
    exact g4 (.inl rfl)
  refine ⟨⟨by rw [List.length_set, List.length_set]; exact R.len, fun j e h1 => ?_, fun j c e' h1 => ?_, fun j k b c c' e f h1 h2 h7 h8 => ?_, fun a ha => R.alo a (.inr ha)⟩, m, fun j e h1 => ?_⟩
  · by_cases q : i = j
    · subst q; rw [List.getElem?_set_self hi] at h1; cases h1
    · rw [List.getElem?_set_ne q] at h1 ⊢
      obtain ⟨w, g1, g2⟩ := R.val j e h1
      exact ⟨w, g1, Rep.le m g2⟩
  · by_cases q : i = j
    · subst q; rw [List.getElem?_set_self hi] at h1; cases h1
      exact ⟨p, o, List.getElem?_set_self hs, e, HRep.le m h, nf⟩
    · rw [List.getElem?_set_ne q] at h1 ⊢
      obtain ⟨w, ob, g1, g2, g3, g4⟩ := R.own j c e' h1
      exact ⟨w, ob, g1, g2, HRep.le m g3, fun z => g4 (.inr z)⟩
  · by_cases qj : i = j
    · by_cases qk : i = k
      · exact qj.symm.trans qk
      · subst qj
        rw [List.getElem?_set_self hs] at h7; cases h7
        rw [List.getElem?_set_ne qk] at h2 h8
        exact absurd h8 (nown k c' f h2)
    · by_cases qk : i = k
      · subst qk
        rw [List.getElem?_set_self hs] at h8; cases h8
        rw [List.getElem?_set_ne qj] at h1 h7
        exact absurd h7 (nown j c e h1)
      · rw [List.getElem?_set_ne qj] at h1 h7
        rw [List.getElem?_set_ne qk] at h2 h8
        exact R.inj j k b c c' e f h1 h2 h7 h8
  · have nj : i ≠ j := fun q => by subst q; rw [pinned, h1] at np; cases np
    exact ⟨⟨e, by rw [List.getElem?_set_ne nj]; exact h1⟩, List.getElem?_set_ne nj⟩
/-- a slot's own object is given up: data from now on -/
theorem Rel.freeze {i : Nat} {d : D} (R : Rel K F ρ σ H) (hi : ρ[i]? = some (some (.o false d))) : Stp K F ρ (ρ.set i (some (.v d))) σ σ H H ∧ ∀ v, σ[i]? = some (some v) → Rep K (vis F (ρ.set i (some (.v d))) σ H) v d := by
  have hil : i < ρ.length := (List.getElem?_eq_some_iff.mp hi).1
  obtain ⟨a, o, h1, h2, h3, h4⟩ := R.own i _ d hi
  have own : ∀ b, OwnAt (ρ.set i (some (.v d))) σ b → OwnAt ρ σ b ∧ b ≠ a := fun b => by
    rintro ⟨j, c, e, g1, g2⟩
    by_cases q : i = j
    · subst q; rw [List.getElem?_set_self hil] at g1; cases g1
    · rw [List.getElem?_set_ne q] at g1
      exact ⟨⟨j, c, e, g1, g2⟩, fun z => q (R.inj i j a _ _ _ _ hi g1 h1 (z ▸ g2))⟩
  have m : Vle (vis F ρ σ H) (vis F (ρ.set i (some (.v d))) σ H) := Vle.sub fun b u e => by
    obtain ⟨g1, g2⟩ := hid_some e
    rw [vis_out fun z => g2 (z.elim .inl fun z => .inr (own b z).1)]
    exact g1
  have hv : Rep K (vis F (ρ.set i (some (.v d))) σ H) (.ref a) d := (HRep.le m h3).rep (by
    rw [vis_out fun z => z.elim h4 fun z => (own a z).2 rfl]
    exact h2)
  refine ⟨⟨⟨by rw [List.length_set]; exact R.len, fun j e g1 => ?_, fun j c e g1 => ?_, fun j k b c c' e f g1 g2 g7 g8 => ?_, R.alo⟩, .refl _ _, m, fun j e g1 => ⟨⟨e, ?_⟩, rfl⟩⟩, fun v e => ?_⟩
  · by_cases q : i = j
    · subst q; rw [List.getElem?_set_self hil] at g1; cases g1
      exact ⟨.ref a, h1, hv⟩
    · rw [List.getElem?_set_ne q] at g1
      obtain ⟨w, k1, k2⟩ := R.val j e g1
      exact ⟨w, k1, Rep.le m k2⟩
  · by_cases q : i = j
    · subst q; rw [List.getElem?_set_self hil] at g1; cases g1
    · rw [List.getElem?_set_ne q] at g1
      obtain ⟨w, ob, k1, k2, k3, k4⟩ := R.own j c e g1
      exact ⟨w, ob, k1, k2, HRep.le m k3, k4⟩
  · have nj : i ≠ j := fun q => by subst q; rw [List.getElem?_set_self hil] at g1; cases g1
    have nk : i ≠ k := fun q => by subst q; rw [List.getElem?_set_self hil] at g2; cases g2
    rw [List.getElem?_set_ne nj] at g1
    rw [List.getElem?_set_ne nk] at g2
    exact R.inj j k b c c' e f g1 g2 g7 g8
  · have nj : i ≠ j := fun q => by subst q; rw [hi] at g1; cases g1
    rw [List.getElem?_set_ne nj]; exact g1
  · rw [h1] at e; cases e; exact hv
theorem Rel.toV {v : V} {x : A} {d : D} {ρ' : Env'} (R : Rel K F ρ σ H) (r : RepA K (vis F ρ σ H) σ v x) (e : toV ρ x = some (d, ρ')) : Stp K F ρ ρ' σ σ H H ∧ Rep K (vis F ρ' σ H) v d := by
  cases x with
  | v d' => cases e; exact ⟨.refl R, r⟩
  | s i =>
    simp only [DL.toV] at e
    have r' : σ[i]? = some (some v) := r
    split at e
    · rename_i h
      cases Option.some.inj e
      obtain ⟨v', h1, h2⟩ := R.val i _ h
      rw [r'] at h1
      cases h1
      exact ⟨.refl R, h2⟩
    · rename_i h
      cases Option.some.inj e
      obtain ⟨h1, h2⟩ := R.freeze h
      exact ⟨h1, h2 v r'⟩
    · cases e
end
end DL

set_option Elab.async false
set_option linter.all false
set_option maxRecDepth 100000
namespace DL
open PySem PySem.Spec L2
set_option autoImplicit false

abbrev EV := Env' → Option (A × Env')
abbrev TV := Env' → Option (Bool × Env')
abbrev LV := Env' → Option (List A × Env')
abbrev FV := Env' → Option (D × Env')

def bd {α β : Type} (m : Env' → Option (α × Env')) (k : α → Env' → Option β) : Env' → Option β := fun ρ => match m ρ with
  | some (x, ρ1) => k x ρ1
  | none => none
theorem bd_inv {α β : Type} {m : Env' → Option (α × Env')} {k : α → Env' → Option β} {ρ : Env'} {r : β} (h : bd m k ρ = some r) : ∃ x ρ1, m ρ = some (x, ρ1) ∧ k x ρ1 = some r := by
  unfold bd at h
  split at h
  · rename_i x ρ1 e; exact ⟨x, ρ1, e, h⟩
  · cases h
def ob {α β : Type} (m : Option α) (k : α → Option β) : Option β := match m with
  | some x => k x
  | none => none
theorem ob_inv {α β : Type} {m : Option α} {k : α → Option β} {r : β} (h : ob m k = some r) : ∃ x, m = some x ∧ k x = some r := by
  unfold ob at h
  split at h
  · rename_i x; exact ⟨x, rfl, h⟩
  · cases h
def grd {β : Type} (c : Bool) (k : Option β) : Option β := match c with
  | true => k
  | false => none
theorem grd_inv {β : Type} {c : Bool} {k : Option β} {r : β} (h : grd c k = some r) : c = true ∧ k = some r := by
  cases c with
  | true => exact ⟨rfl, h⟩
  | false => cases h

def tD (K : PySem.W.Frag) (m : EV) : TE := fun σ H Q => ∃ F ρ x ρ', Rel K F ρ σ H ∧ m ρ = some (x, ρ') ∧ ∀ H' v, Stp K F ρ ρ' σ σ H H' → RepA K (vis F ρ' σ H') σ v x → Q v H'
def tDT (K : PySem.W.Frag) (m : TV) : TT := fun σ H Q => ∃ F ρ x ρ', Rel K F ρ σ H ∧ m ρ = some (x, ρ') ∧ ∀ H', Stp K F ρ ρ' σ σ H H' → Q x H'
inductive RepAL (K : PySem.W.Frag) (G : Hp) (σ : St) : List V → List A → Prop
  | nil : RepAL K G σ [] []
  | cons {v : V} {vs : List V} {x : A} {xs : List A} : RepA K G σ v x → RepAL K G σ vs xs → RepAL K G σ (v :: vs) (x :: xs)
def tDL (K : PySem.W.Frag) (m : LV) : TA := fun σ H Q => ∃ F ρ xs ρ', Rel K F ρ σ H ∧ m ρ = some (xs, ρ') ∧ ∀ H' vs, Stp K F ρ ρ' σ σ H H' → RepAL K (vis F ρ' σ H') σ vs xs → Q vs H'
def tDF (K : PySem.W.Frag) (m : FV) : TE := fun σ H Q => ∃ F ρ d ρ', Rel K F ρ σ H ∧ m ρ = some (d, ρ') ∧ ∀ H' p o, Rel K (fp F p) ρ' σ H' → H' p = some o → HRep K (vis (fp F p) ρ' σ H') o d → ¬ F p →
  Keep F H H' → Vle (vis F ρ σ H) (vis (fp F p) ρ' σ H') → Pins ρ ρ' σ σ → Q (.ref p) H'
def DE (X : Cx) (e : Expr) (m : EV) : Prop := PE X e (tD X.K m)
def DT (X : Cx) (e : Expr) (m : TV) : Prop := PT X e (tDT X.K m)
def DA (X : Cx) (es : List Expr) (m : LV) : Prop := PA X es (tDL X.K m)
def DF (X : Cx) (e : Expr) (m : FV) : Prop := PE X e (tDF X.K m)

theorem pe_weak {X : Cx} {e : Expr} {t t' : TE} (h : PE X e t) (w : ∀ σ H Q, t' σ H Q → t σ H Q) : PE X e t' := ⟨fun pins s σ H Q I q => h.run pins s σ H Q I (w σ H Q q)⟩
theorem pt_weak {X : Cx} {e : Expr} {t t' : TT} (h : PT X e t) (w : ∀ σ H Q, t' σ H Q → t σ H Q) : PT X e t' := ⟨fun pins s σ H Q I q => h.run pins s σ H Q I (w σ H Q q)⟩
theorem pw_weak {X : Cx} {e : Expr} {t t' : TT} (h : PW X e t) (w : ∀ σ H Q, t' σ H Q → t σ H Q) : PW X e t' := ⟨fun whole pins s σ H Q I q => h.run whole pins s σ H Q I (w σ H Q q)⟩
theorem pa_weak {X : Cx} {e : List Expr} {t t' : TA} (h : PA X e t) (w : ∀ σ H Q, t' σ H Q → t σ H Q) : PA X e t' := ⟨fun pos pins s σ H Q I q => h.run pos pins s σ H Q I (w σ H Q q)⟩

section
variable {X : Cx} {K : PySem.W.Frag}
theorem RepAL.le {G G' : Hp} (m : Vle G G') {σ : St} : ∀ {vs : List V} {xs : List A}, RepAL K G σ vs xs → RepAL K G' σ vs xs
  | _, _, .nil => .nil
  | _, _, .cons h t => .cons (RepA.le m h) (RepAL.le m t)
/-- a fresh object is data as well -/
def mFr (m : FV) : EV := bd m fun d ρ => some (.v d, ρ)
theorem Rel.shown {F : Fr0} {ρ : Env'} {σ : St} {H : Hp} {p : Addr} {o : HO} {d : D} (R : Rel K (fp F p) ρ σ H) (nf : ¬ F p) (e : H p = some o) (h : HRep K (vis (fp F p) ρ σ H) o d) : Rep K (vis F ρ σ H) (.ref p) d := by
  refine (HRep.le vle_unfp h).rep ?_
  rw [vis_out fun z => z.elim nf fun z => ?_]
  · exact e
  · obtain ⟨i, b', d', h1, h2⟩ := z
    obtain ⟨a, o', h3, _, _, h6⟩ := R.own i b' d' h1
    rw [h2] at h3; cases h3
    exact h6 (.inl rfl)
theorem df_de {e : Expr} {m : FV} (h : DF X e m) : DE X e (mFr m) := pe_weak h fun σ H Q ⟨F, ρ, x, ρ', R, em, k⟩ => by
  obtain ⟨d, ρ1, e1, e2⟩ := bd_inv em
  cases e2
  exact ⟨F, ρ, d, ρ', R, e1, fun H' p o R' ep ho nf kp vl pn => k H' _ ⟨R'.show, kp, vl.trans vle_unfp, pn⟩ (R'.shown nf ep ho)⟩

/-! ### names, constants -/
def mVar (i : Nat) : EV := fun ρ => match ρ[i]? with
  | some (some (.v d)) => some (.v d, ρ)
  | some (some (.o _ _)) => some (.s i, ρ)
  | _ => none
theorem de_var {i : Nat} {x : Str} {pos : Pos} (hN : X.N[i]? = some x := by rfl) (hv : Vis X.env.scope x := by first | exact Or.inl rfl | exact Or.inr (Or.inl rfl) | exact Or.inr (Or.inr rfl)) (hd : (x == ("__debug__" : Str)) = false := by decide)
    (hcd : (x == ("__classdict__" : Str)) = false := by decide) : DE X (.Name x pos) (mVar i) := pe_weak (pe_var hN hv hd hcd) fun σ H Q ⟨F, ρ, x, ρ', R, em, k⟩ => by
  unfold mVar at em
  split at em
  · rename_i d h
    cases em
    obtain ⟨v, h1, h2⟩ := R.val i _ h
    exact ⟨v, h1, k H v (.refl R) h2⟩
  · rename_i d h
    cases em
    obtain ⟨a, o, h1, _⟩ := R.own i _ _ h
    exact ⟨_, h1, k H _ (.refl R) h1⟩
  · cases em
def mC (d : D) : EV := fun ρ => some (.v d, ρ)
theorem de_of_c {e : Expr} {v : V} {d : D} (h : PE X e (tC v)) (r : ∀ G, Rep X.K G v d) : DE X e (mC d) := pe_weak h fun σ H Q ⟨F, ρ, x, ρ', R, em, k⟩ => by
  cases em
  exact k H v (.refl R) (r _)
theorem de_int {i : Int} {j pos} : DE X (.Constant (.int i) j pos) (mC (.int i)) := de_of_c pe_int fun _ => .int i
theorem de_bl {b : Bool} {j pos} : DE X (.Constant (.bool b) j pos) (mC (.bl b)) := de_of_c pe_bl fun _ => .bl b
theorem de_non {j pos} : DE X (.Constant .none j pos) (mC .non) := de_of_c pe_non fun _ => .non
theorem de_str {x : Str} {j pos} : DE X (.Constant (.str x) j pos) (mC (.str x)) := de_of_c pe_str fun _ => .str x
theorem de_fn {x : Str} {f : Addr} {pos : Pos} (hg : Gl X x) (hm : X.mg x = some (.ref f)) (hd : (x == ("__debug__" : Str)) = false := by decide) : DE X (.Name x pos) (mC (.fn f)) :=
  de_of_c (pe_glob (v := .ref f) hg hm rfl hd) fun _ => .fn f

/-! ### two places -/
def m2 (f : D → D → Option D) (ma mb : EV) : EV := bd ma fun x => bd mb fun y ρ => ob (deref ρ x) fun d => ob (deref ρ y) fun e => ob (f d e) fun z => some (.v z, ρ)
/-- an operation on data: what the rule asks is given -/
def OpD (K : PySem.W.Frag) (f : D → D → Option D) (r : R2) : Prop := ∀ (F : Fr0) (ρ : Env') (σ : St) (H : Hp) (v u : V) (d e z : D) (Q : VK), Rel K F ρ σ H → Top K H (vis F ρ σ H) v d → Top K H (vis F ρ σ H) u e → f d e = some z →
  (∀ H' w, Stp K F ρ ρ σ σ H H' → Rep K (vis F ρ σ H') w z → Q w H') → r v u H Q
theorem op2 {f : D → D → Option D} {r : R2} (hd : OpD K f r) {ma mb : EV} {σ : St} {H : Hp} {Q : VK} (h : tD K (m2 f ma mb) σ H Q) : tOp r (tD K ma) (tD K mb) σ H Q := by
  obtain ⟨F, ρ, x, ρ', R, em, k⟩ := h
  obtain ⟨x1, ρ1, e1, em⟩ := bd_inv em
  obtain ⟨y1, ρ2, e2, em⟩ := bd_inv em
  obtain ⟨d, e3, em⟩ := ob_inv em
  obtain ⟨e, e4, em⟩ := ob_inv em
  obtain ⟨z, e5, em⟩ := ob_inv em
  cases em
  refine ⟨F, ρ, x1, ρ1, R, e1, fun H1 v s1 r1 => ⟨F, ρ1, y1, _, s1.rel, e2, fun H2 u s2 r2 => ?_⟩⟩
  exact hd F _ σ H2 v u d e z Q s2.rel (s2.rel.top (r1.le s2.vle) e3) (s2.rel.top r2 e4) e5 fun H' w s3 rw' => k H' w ((s1.trans s2).trans s3) rw'
theorem de_op {op : Operator} {r : R2} {f : D → D → Option D} {a b : Expr} {ma mb : EV} {pos : Pos} (ho : OpR X (binaryOp op) r) (hd : OpD X.K f r) (ha : DE X a ma) (hb : DE X b mb) : DE X (.BinOp a op b pos) (m2 f ma mb) :=
  pe_weak (pe_op ho ha hb) fun _ _ _ h => op2 hd h
theorem de_cmp {op : CmpOp} {r : R2} {f : D → D → Option D} {a b : Expr} {ma mb : EV} {pos : Pos} (ho : OpR X (compareOp op) r) (hd : OpD X.K f r) (ha : DE X a ma) (hb : DE X b mb) (hm : behindInMarks op b = false) : DE X (.Compare a [op] [b] pos) (m2 f ma mb) :=
  pe_weak (pe_cmpR ho ha hb hm) fun _ _ _ h => op2 hd h
/-- a value that is a bool as a test -/
def mT (m : EV) : TV := bd m fun x ρ => match x with
  | .v (.bl b) => some (b, ρ)
  | _ => none
theorem tst {m : EV} {σ : St} {H : Hp} {Q : Bool → Hp → Prop} (h : tDT K (mT m) σ H Q) : tD K m σ H fun x H' => ∃ k, x = .bl k ∧ Q k H' := by
  obtain ⟨F, ρ, x, ρ', R, em, k⟩ := h
  obtain ⟨x1, ρ1, e1, em⟩ := bd_inv em
  split at em
  · cases em
    refine ⟨F, ρ, _, _, R, e1, fun H' v s r => ⟨_, ?_, k H' s⟩⟩
    cases r; rfl
  · cases em
theorem dt_cmp {op : CmpOp} {r : R2} {f : D → D → Option D} {a b : Expr} {ma mb : EV} {pos : Pos} (ho : OpR X (compareOp op) r) (hd : OpD X.K f r) (ha : DE X a ma) (hb : DE X b mb) (hm : behindInMarks op b = false) : DT X (.Compare a [op] [b] pos) (mT (m2 f ma mb)) :=
  pt_weak (pt_cmpR ho ha hb hm) fun _ _ _ h => by
    obtain ⟨F, ρ, x, ρ', R, em, k⟩ := tst h
    exact op2 hd ⟨F, ρ, x, ρ', R, em, k⟩
theorem tru_bl {k : Bool} {H : Hp} : TruV K (.bl k) H k := rfl
/-- a name, a call, a subscript .. as a test, where it is a bool -/
theorem dt_val {e : Expr} {m : EV} (h : DE X e m) (he : ∀ whole, isTrue e X.env whole = (do let v ← whole; standAt e.pos; holding [v] (truthy v)) := by intro _; rfl) : DT X e (mT m) :=
  pt_weak (pt_val h he) fun σ H Q q => tst q

/-! ### ints -/
def addI : D → D → Option D
  | .int i, .int j => some (.int (i + j))
  | _, _ => none
def subI : D → D → Option D
  | .int i, .int j => some (.int (i - j))
  | _, _ => none
def mulOk (i j : Int) : Bool := decide (i.natAbs.log2 + j.natAbs.log2 < 1000000)
def mulI : D → D → Option D
  | .int i, .int j => grd (mulOk i j) (some (.int (i * j)))
  | _, _ => none
def divOk (j : Int) : Bool := decide (0 < j ∧ j.natAbs.log2 < 9000)
def fdivI : D → D → Option D
  | .int i, .int j => grd (divOk j) (some (.int (i / j)))
  | _, _ => none
def modI : D → D → Option D
  | .int i, .int j => grd (decide (0 < j)) (some (.int (i % j)))
  | _, _ => none
def powOk (i j : Int) : Bool := decide (0 ≤ j ∧ j ≤ 1000000 ∧ i.natAbs < 2 ^ 64)
def powI : D → D → Option D
  | .int i, .int j => grd (powOk i j) (some (.int (i ^ j.toNat)))
  | _, _ => none
def shlI : D → D → Option D
  | .int i, .int j => grd (powOk i j) (some (.int (i * 2 ^ j.toNat)))
  | _, _ => none
def shrI : D → D → Option D
  | .int i, .int j => grd (decide (0 ≤ j)) (some (.int (i / 2 ^ j.toNat)))
  | _, _ => none
def andI : D → D → Option D
  | .int i, .int j => some (.int (Builtin.bitAnd i j))
  | _, _ => none
def orI : D → D → Option D
  | .int i, .int j => some (.int (Builtin.bitOr i j))
  | _, _ => none
def cmpI (p : Int → Int → Bool) : D → D → Option D
  | .int i, .int j => some (.bl (p i j))
  | _, _ => none
section
theorem opd_i0 {g : Int → Int → V} {h : Int → Int → D} {f : D → D → Option D} (hf : ∀ d e z, f d e = some z → ∃ i j, d = .int i ∧ e = .int j ∧ z = h i j) (hr : ∀ G i j, Rep K G (g i j) (h i j)) : OpD K f (rI0 g) := by
  intro F ρ σ H v u d e z Q R tv tu ef k
  obtain ⟨i, j, rfl, rfl, rfl⟩ := hf d e z ef
  exact ⟨i, j, tv.int, tu.int, k H _ (.refl R) (hr _ i j)⟩
theorem opd_i {C : Int → Int → Prop} {g : Int → Int → V} {h : Int → Int → D} {f : D → D → Option D} (hf : ∀ d e z, f d e = some z → ∃ i j, d = .int i ∧ e = .int j ∧ C i j ∧ z = h i j) (hr : ∀ G i j, Rep K G (g i j) (h i j)) : OpD K f (rI C g) := by
  intro F ρ σ H v u d e z Q R tv tu ef k
  obtain ⟨i, j, rfl, rfl, c, rfl⟩ := hf d e z ef
  exact ⟨i, j, tv.int, tu.int, c, k H _ (.refl R) (hr _ i j)⟩
theorem od_add : OpD K addI (rI0 fun i j => .int (i + j)) := opd_i0 (h := fun i j => .int (i + j)) (fun d e z h => by unfold addI at h; split at h <;> cases h; exact ⟨_, _, rfl, rfl, rfl⟩) fun _ _ _ => .int _
theorem od_sub : OpD K subI (rI0 fun i j => .int (i - j)) := opd_i0 (h := fun i j => .int (i - j)) (fun d e z h => by unfold subI at h; split at h <;> cases h; exact ⟨_, _, rfl, rfl, rfl⟩) fun _ _ _ => .int _
theorem od_and : OpD K andI (rI0 fun i j => .int (Builtin.bitAnd i j)) := opd_i0 (h := fun i j => .int (Builtin.bitAnd i j)) (fun d e z h => by unfold andI at h; split at h <;> cases h; exact ⟨_, _, rfl, rfl, rfl⟩) fun _ _ _ => .int _
theorem od_or : OpD K orI (rI0 fun i j => .int (Builtin.bitOr i j)) := opd_i0 (h := fun i j => .int (Builtin.bitOr i j)) (fun d e z h => by unfold orI at h; split at h <;> cases h; exact ⟨_, _, rfl, rfl, rfl⟩) fun _ _ _ => .int _
theorem od_cmp {p : Int → Int → Bool} : OpD K (cmpI p) (rI0 fun i j => .bl (p i j)) := opd_i0 (h := fun i j => .bl (p i j)) (fun d e z h => by unfold cmpI at h; split at h <;> cases h; exact ⟨_, _, rfl, rfl, rfl⟩) fun _ _ _ => .bl _
theorem od_mul : OpD K mulI (rI CMulW fun i j => .int (i * j)) := opd_i (h := fun i j => .int (i * j)) (fun d e z h => by
  unfold mulI at h; split at h
  · obtain ⟨h1, h2⟩ := grd_inv h; cases h2; exact ⟨_, _, rfl, rfl, (by have q := of_decide_eq_true h1; exact q), rfl⟩
  · cases h) fun _ _ _ => .int _
theorem od_fdiv : OpD K fdivI (rI CDivW fun i j => .int (i / j)) := opd_i (h := fun i j => .int (i / j)) (fun d e z h => by
  unfold fdivI at h; split at h
  · obtain ⟨h1, h2⟩ := grd_inv h; cases h2; exact ⟨_, _, rfl, rfl, (by have q := of_decide_eq_true h1; exact q), rfl⟩
  · cases h) fun _ _ _ => .int _
theorem od_mod : OpD K modI (rI (fun _ j => 0 < j) fun i j => .int (i % j)) := opd_i (h := fun i j => .int (i % j)) (fun d e z h => by
  unfold modI at h; split at h
  · obtain ⟨h1, h2⟩ := grd_inv h; cases h2; exact ⟨_, _, rfl, rfl, (by have q := of_decide_eq_true h1; exact q), rfl⟩
  · cases h) fun _ _ _ => .int _
theorem od_pow : OpD K powI (rI CPow fun i j => .int (i ^ j.toNat)) := opd_i (h := fun i j => .int (i ^ j.toNat)) (fun d e z h => by
  unfold powI at h; split at h
  · obtain ⟨h1, h2⟩ := grd_inv h; cases h2; exact ⟨_, _, rfl, rfl, (by have q := of_decide_eq_true h1; exact q), rfl⟩
  · cases h) fun _ _ _ => .int _
theorem od_shl : OpD K shlI (rI CPow fun i j => .int (i * 2 ^ j.toNat)) := opd_i (h := fun i j => .int (i * 2 ^ j.toNat)) (fun d e z h => by
  unfold shlI at h; split at h
  · obtain ⟨h1, h2⟩ := grd_inv h; cases h2; exact ⟨_, _, rfl, rfl, (by have q := of_decide_eq_true h1; exact q), rfl⟩
  · cases h) fun _ _ _ => .int _
theorem od_shr : OpD K shrI (rI (fun _ j => 0 ≤ j) fun i j => .int (i / 2 ^ j.toNat)) := opd_i (h := fun i j => .int (i / 2 ^ j.toNat)) (fun d e z h => by
  unfold shrI at h; split at h
  · obtain ⟨h1, h2⟩ := grd_inv h; cases h2; exact ⟨_, _, rfl, rfl, (by have q := of_decide_eq_true h1; exact q), rfl⟩
  · cases h) fun _ _ _ => .int _
end
/-- two kinds of one operation: which one, the data tell -/
def orO (f g : D → D → Option D) : D → D → Option D := fun d e => match f d e with
  | some z => some z
  | none => g d e
theorem OpD.or {f g : D → D → Option D} {r r' : R2} (h : OpD K f r) (h' : OpD K g r') : OpD K (orO f g) (fun x y H Q => r x y H Q ∨ r' x y H Q) := by
  intro F ρ σ H v u d e z Q R tv tu ef k
  unfold orO at ef
  split at ef
  · rename_i z' e1
    cases ef
    exact .inl (h F ρ σ H v u d e _ Q R tv tu e1 k)
  · exact .inr (h' F ρ σ H v u d e z Q R tv tu ef k)
end
end DL

set_option Elab.async false
set_option linter.all false
set_option maxRecDepth 100000
namespace DL
open PySem PySem.Spec L2
set_option autoImplicit false

/-! ### data that are compared -/
mutual
def toP : D → Option PyData
  | .non => some .none
  | .bl b => some (.bool b)
  | .int i => some (.int i)
  | .str x => some (.str x)
  | .tup l => match toPL l with
    | some ps => some (.tuple ps)
    | none => none
  | .lst l => match toPL l with
    | some ps => some (.list ps)
    | none => none
  | .scr _ => none
  | .dk _ => none
  | .dt _ => none
  | .ins _ _ => none
  | .fn _ => none
  | .rg _ _ => none
def toPL : List D → Option (List PyData)
  | [] => some []
  | d :: ds => match toP d, toPL ds with
    | some p, some ps => some (p :: ps)
    | _, _ => none
end
section
variable {K : PySem.W.Frag} {F : Fr0} {H : Hp}
mutual
theorem Rep.dp : ∀ {v : V} {d : D} {p : PyData}, Rep K (hid F H) v d → toP d = some p → Dp K H v p
  | _, _, _, .non, e => by simp only [toP] at e; cases e; exact .non
  | _, _, _, .bl b, e => by simp only [toP] at e; cases e; exact .bl b
  | _, _, _, .int b, e => by simp only [toP] at e; cases e; exact .int b
  | _, _, _, .str b, e => by simp only [toP] at e; cases e; exact .str b
  | _, _, _, .tup s r, e => by
    simp only [toP] at e
    split at e
    · rename_i ps h; cases e; exact .tup (sqT_vis s) (RepL.dp r h)
    · cases e
  | _, _, _, .lst s r, e => by
    simp only [toP] at e
    split at e
    · rename_i ps h; cases e; exact .lst (.inl (.inl (hid_some s).1)) (RepL.dp r h)
    · cases e
  | _, _, _, .scr _ _, e => by simp only [toP] at e; cases e
  | _, _, _, .dk _ _ _, e => by simp only [toP] at e; cases e
  | _, _, _, .dt _ _ _, e => by simp only [toP] at e; cases e
  | _, _, _, .ins _ _ _, e => by simp only [toP] at e; cases e
  | _, _, _, .fn _, e => by simp only [toP] at e; cases e
theorem RepL.dp : ∀ {vs : List V} {ds : List D} {ps : List PyData}, RepL K (hid F H) vs ds → toPL ds = some ps → DpAll K H vs ps
  | _, _, _, .nil, e => by simp only [toPL] at e; cases e; exact .nil
  | _, _, _, .cons h t, e => by
    simp only [toPL] at e
    split at e
    · rename_i p ps h1 h2; cases e; exact .cons (Rep.dp h h1) (RepL.dp t h2)
    · cases e
end
theorem Top.dp {v : V} {d : D} {p : PyData} (t : Top K H (hid F H) v d) (e : toP d = some p) : Dp K H v p := by
  cases t with
  | rep r => exact Rep.dp r e
  | own e1 h =>
    rename_i a o
    cases o <;> cases d <;> first
      | exact h.elim
      | (simp only [toP] at e; split at e
         · rename_i ps h1; cases e; exact .lst (.inl (.inl e1)) (RepL.dp h h1)
         · cases e)
      | (simp only [toP] at e; cases e)
end
def shp (p : PyData) : Bool := SeqAt.shaped p
def eqD : D → D → Option D := fun d e => ob (toP d) fun p => ob (toP e) fun q => grd (shp p && shp q) (some (.bl (PyData.eqv p q)))
def neD : D → D → Option D := fun d e => ob (toP d) fun p => ob (toP e) fun q => grd (shp p && shp q) (some (.bl (!PyData.eqv p q)))
def inL : D → D → Option D := fun d e => match e with
  | .lst l => ob (toP d) fun p => ob (toPL l) fun qs => grd (shp p && shp (.list qs)) (some (.bl (qs.any fun z => PyData.eqv z p)))
  | _ => none
def notInL : D → D → Option D := fun d e => match e with
  | .lst l => ob (toP d) fun p => ob (toPL l) fun qs => grd (shp p && shp (.list qs)) (some (.bl (!qs.any fun z => PyData.eqv z p)))
  | _ => none
def inT : D → D → Option D := fun d e => match e with
  | .tup l => ob (toP d) fun p => ob (toPL l) fun qs => grd (shp p && shp (.tuple qs)) (some (.bl (qs.any fun z => PyData.eqv z p)))
  | _ => none
def notInT : D → D → Option D := fun d e => match e with
  | .tup l => ob (toP d) fun p => ob (toPL l) fun qs => grd (shp p && shp (.tuple qs)) (some (.bl (!qs.any fun z => PyData.eqv z p)))
  | _ => none
section
variable {X : Cx} {K : PySem.W.Frag}
theorem od_eq : OpD K eqD (rEqD K) := by
  intro F ρ σ H v u d e z Q R tv tu ef k
  obtain ⟨p, e1, ef⟩ := ob_inv ef
  obtain ⟨q, e2, ef⟩ := ob_inv ef
  obtain ⟨g, ef⟩ := grd_inv ef
  rw [Bool.and_eq_true] at g
  cases ef
  exact ⟨p, q, tv.dp e1, tu.dp e2, g.1, g.2, k H _ (.refl R) (.bl _)⟩
theorem od_ne : OpD K neD (rNeD K) := by
  intro F ρ σ H v u d e z Q R tv tu ef k
  obtain ⟨p, e1, ef⟩ := ob_inv ef
  obtain ⟨q, e2, ef⟩ := ob_inv ef
  obtain ⟨g, ef⟩ := grd_inv ef
  rw [Bool.and_eq_true] at g
  cases ef
  exact ⟨p, q, tv.dp e1, tu.dp e2, g.1, g.2, k H _ (.refl R) (.bl _)⟩
theorem od_inL : OpD K inL (rInD K) := by
  intro F ρ σ H v u d e z Q R tv tu ef k
  unfold inL at ef
  split at ef
  · obtain ⟨p, e1, ef⟩ := ob_inv ef
    obtain ⟨q, e2, ef⟩ := ob_inv ef
    obtain ⟨g, ef⟩ := grd_inv ef
    rw [Bool.and_eq_true] at g
    cases ef
    exact ⟨p, q, tv.dp e1, tu.dp (by simp only [toP, e2]), g.1, g.2, k H _ (.refl R) (.bl _)⟩
  · cases ef
theorem od_notInL : OpD K notInL (rNotInD K) := by
  intro F ρ σ H v u d e z Q R tv tu ef k
  unfold notInL at ef
  split at ef
  · obtain ⟨p, e1, ef⟩ := ob_inv ef
    obtain ⟨q, e2, ef⟩ := ob_inv ef
    obtain ⟨g, ef⟩ := grd_inv ef
    rw [Bool.and_eq_true] at g
    cases ef
    exact ⟨p, q, tv.dp e1, tu.dp (by simp only [toP, e2]), g.1, g.2, k H _ (.refl R) (.bl _)⟩
  · cases ef
def rInTD (K : PySem.W.Frag) : R2 := fun x y H Q => ∃ d ds, Dp K H x d ∧ Dp K H y (.tuple ds) ∧ SeqAt.shaped d = true ∧ SeqAt.shaped (.tuple ds) = true ∧ Q (.bl (ds.any fun z => PyData.eqv z d)) H
def rNotInTD (K : PySem.W.Frag) : R2 := fun x y H Q => ∃ d ds, Dp K H x d ∧ Dp K H y (.tuple ds) ∧ SeqAt.shaped d = true ∧ SeqAt.shaped (.tuple ds) = true ∧ Q (.bl (!ds.any fun z => PyData.eqv z d)) H
theorem room_inT {A : Around} {d : PyData} {n : Nat} (h : SeqAt.shaped d = true) (hu : A.units + 65 < cLine) : A.units + 1 + min n d.depth < cLine := by
  have h1 := SeqAt.depth_of_shaped h
  have h2 : min n d.depth ≤ d.depth := Nat.min_le_right _ _
  omega
theorem op_inTD (hu : X.A.units + 65 < cLine) : OpR X (compareOp .In) (rInTD X.K) := by
  intro pins s σ H x y v u Q I rx ry h
  obtain ⟨d, ds, hd, he, sd, se, q⟩ := h
  obtain ⟨as, r1⟩ := Dp.reads I d x v hd rx
  obtain ⟨bs, r2⟩ := Dp.reads I (.tuple ds) y u he ry
  exact SeqAt.in_tuple_reads r2 r1 (SeqAt.canLay_of_shaped se) (SeqAt.canLay_of_shaped sd) (room_inT sd hu) ⟨.bl _, H, I, rfl, q⟩
theorem op_notInTD (hu : X.A.units + 65 < cLine) : OpR X (compareOp .NotIn) (rNotInTD X.K) := by
  intro pins s σ H x y v u Q I rx ry h
  obtain ⟨d, ds, hd, he, sd, se, q⟩ := h
  obtain ⟨as, r1⟩ := Dp.reads I d x v hd rx
  obtain ⟨bs, r2⟩ := Dp.reads I (.tuple ds) y u he ry
  exact SeqAt.notIn_tuple_reads r2 r1 (SeqAt.canLay_of_shaped se) (SeqAt.canLay_of_shaped sd) (room_inT sd hu) ⟨.bl _, H, I, rfl, q⟩
theorem od_inT : OpD K inT (rInTD K) := by
  intro F ρ σ H v u d e z Q R tv tu ef k
  unfold inT at ef
  split at ef
  · obtain ⟨p, e1, ef⟩ := ob_inv ef
    obtain ⟨q, e2, ef⟩ := ob_inv ef
    obtain ⟨g, ef⟩ := grd_inv ef
    rw [Bool.and_eq_true] at g
    cases ef
    exact ⟨p, q, tv.dp e1, tu.dp (by simp only [toP, e2]), g.1, g.2, k H _ (.refl R) (.bl _)⟩
  · cases ef
theorem od_notInT : OpD K notInT (rNotInTD K) := by
  intro F ρ σ H v u d e z Q R tv tu ef k
  unfold notInT at ef
  split at ef
  · obtain ⟨p, e1, ef⟩ := ob_inv ef
    obtain ⟨q, e2, ef⟩ := ob_inv ef
    obtain ⟨g, ef⟩ := grd_inv ef
    rw [Bool.and_eq_true] at g
    cases ef
    exact ⟨p, q, tv.dp e1, tu.dp (by simp only [toP, e2]), g.1, g.2, k H _ (.refl R) (.bl _)⟩
  · cases ef
/-- is None, is not None, is True, is not True .. -/
def isNon : D → Bool
  | .non => true
  | _ => false
def isN : D → D → Option D := fun d e => match e with
  | .non => some (.bl (isNon d))
  | _ => none
def notN : D → D → Option D := fun d e => match e with
  | .non => some (.bl (!isNon d))
  | _ => none
theorem Rep.isNon {G : Hp} {v : V} {d : D} (r : Rep K G v d) : decide (v = .non) = isNon d := by cases r <;> rfl
theorem Top.isNon {F : Fr0} {H : Hp} {v : V} {d : D} (t : Top K H (hid F H) v d) : decide (v = .non) = DL.isNon d := by
  cases t with
  | rep r => exact r.isNon
  | own e h => rename_i a o; cases o <;> cases d <;> first | exact h.elim | rfl
theorem od_isN : OpD K isN (fun x y H Q => y = .non ∧ Q (.bl (decide (x = .non))) H) := by
  intro F ρ σ H v u d e z Q R tv tu ef k
  unfold isN at ef
  split at ef
  · cases ef; exact ⟨tu.non, k H _ (.refl R) (by rw [tv.isNon]; exact .bl _)⟩
  · cases ef
theorem od_notN : OpD K notN (fun x y H Q => y = .non ∧ Q (.bl (!decide (x = .non))) H) := by
  intro F ρ σ H v u d e z Q R tv tu ef k
  unfold notN at ef
  split at ef
  · cases ef; exact ⟨tu.non, k H _ (.refl R) (by rw [tv.isNon]; exact .bl _)⟩
  · cases ef
def isB : D → D → Option D
  | .bl a, .bl b => some (.bl (decide (a = b)))
  | _, _ => none
def notB : D → D → Option D
  | .bl a, .bl b => some (.bl (!decide (a = b)))
  | _, _ => none
theorem od_isB : OpD K isB (fun x y H Q => ∃ a b, x = .bl a ∧ y = .bl b ∧ Q (.bl (decide (a = b))) H) := by
  intro F ρ σ H v u d e z Q R tv tu ef k
  unfold isB at ef
  split at ef
  · cases ef; exact ⟨_, _, tv.bl, tu.bl, k H _ (.refl R) (.bl _)⟩
  · cases ef
theorem od_notB : OpD K notB (fun x y H Q => ∃ a b, x = .bl a ∧ y = .bl b ∧ Q (.bl (!decide (a = b))) H) := by
  intro F ρ σ H v u d e z Q R tv tu ef k
  unfold notB at ef
  split at ef
  · cases ef; exact ⟨_, _, tv.bl, tu.bl, k H _ (.refl R) (.bl _)⟩
  · cases ef

/-! ### chains of two comparisons -/
def mCh (f g : D → D → Option D) (ma mb mc : EV) : EV := bd ma fun x => bd mb fun y ρ => ob (deref ρ x) fun d => ob (deref ρ y) fun e => ob (f d e) fun z => match z with
  | .bl true => bd mc (fun w ρ3 => ob (deref ρ3 y) fun e => ob (deref ρ3 w) fun c => ob (g e c) fun z => some (.v z, ρ3)) ρ
  | .bl false => some (.v (.bl false), ρ)
  | _ => none
theorem chn {f g : D → D → Option D} {r r' : R2} (hf : OpD K f r) (hg : OpD K g r') {ma mb mc : EV} {σ : St} {H : Hp} {Q : VK} (h : tD K (mCh f g ma mb mc) σ H Q) : tChain r r' (tD K ma) (tD K mb) (tD K mc) σ H Q := by
  obtain ⟨F, ρ, x, ρ', R, em, k⟩ := h
  obtain ⟨x1, ρ1, e1, em⟩ := bd_inv em
  obtain ⟨y1, ρ2, e2, em⟩ := bd_inv em
  obtain ⟨d, e3, em⟩ := ob_inv em
  obtain ⟨e, e4, em⟩ := ob_inv em
  obtain ⟨z, e5, em⟩ := ob_inv em
  refine ⟨F, ρ, x1, ρ1, R, e1, fun H1 v s1 r1 => ⟨F, ρ1, y1, _, s1.rel, e2, fun H2 u s2 r2 => ?_⟩⟩
  refine hf F _ σ H2 v u d e z _ s2.rel (s2.rel.top (r1.le s2.vle) e3) (s2.rel.top r2 e4) e5 fun H3 w s3 rw' => ?_
  split at em
  · obtain ⟨w1, ρ3, e6, em⟩ := bd_inv em
    obtain ⟨e', e7, em⟩ := ob_inv em
    obtain ⟨c, e8, em⟩ := ob_inv em
    obtain ⟨z', e9, em⟩ := ob_inv em
    cases em
    refine ⟨true, (by cases rw'; rfl), ?_⟩
    rw [if_pos rfl]
    refine ⟨F, ρ2, w1, _, s3.rel, e6, fun H4 w4 s4 r4 => ?_⟩
    exact hg F _ σ H4 u w4 e' c z' Q s4.rel (s4.rel.top ((r2.le s3.vle).le s4.vle) e7) (s4.rel.top r4 e8) e9 fun H' w s5 rw' => k H' w ((((s1.trans s2).trans s3).trans s4).trans s5) rw'
  · cases em
    refine ⟨false, (by cases rw'; rfl), ?_⟩
    rw [if_neg (by decide)]
    exact k H3 _ ((s1.trans s2).trans s3) (.bl false)
  · cases em
theorem de_chain {op op' : CmpOp} {r r' : R2} {f g : D → D → Option D} {a b c : Expr} {ma mb mc : EV} {pos : Pos} (ho : OpR X (compareOp op) r) (hf : OpD X.K f r) (ho' : OpR X (compareOp op') r') (hg : OpD X.K g r') (ha : DE X a ma) (hb : DE X b mb) (hc : DE X c mc)
    (hm : lastMarks [op, op'] [b, c] = false := by with_unfolding_all rfl) : DE X (.Compare a [op, op'] [b, c] pos) (mCh f g ma mb mc) := pe_weak (pe_chain ho ho' ha hb hc hm) fun _ _ _ h => chn hf hg h
theorem dt_chain {op op' : CmpOp} {r r' : R2} {f g : D → D → Option D} {a b c : Expr} {ma mb mc : EV} {pos : Pos} (ho : OpR X (compareOp op) r) (hf : OpD X.K f r) (ho' : OpR X (compareOp op') r') (hg : OpD X.K g r') (ha : DE X a ma) (hb : DE X b mb) (hc : DE X c mc)
    (hm : lastMarks [op, op'] [b, c] = false := by with_unfolding_all rfl) : DT X (.Compare a [op, op'] [b, c] pos) (mT (mCh f g ma mb mc)) := pt_weak (pt_chain ho ho' ha hb hc hm) fun _ _ _ h => by
    obtain ⟨F, ρ, x, ρ', R, em, k⟩ := tst h
    exact chn hf hg ⟨F, ρ, x, ρ', R, em, k⟩

/-! ### and, or, not, if .. else -/
def tAnd' (m n : TV) : TV := bd m fun b ρ => match b with
  | true => n ρ
  | false => some (false, ρ)
def tOr' (m n : TV) : TV := bd m fun b ρ => match b with
  | true => some (true, ρ)
  | false => n ρ
def tNot' (m : TV) : TV := bd m fun b ρ => some (!b, ρ)
def DW (X : Cx) (e : Expr) (m : TV) : Prop := PW X e (tDT X.K m)
section
variable {a b : Expr} {rest : List Expr} {m n : TV} {pos : Pos}
theorem and_w {σ : St} {H : Hp} {Q : Bool → Hp → Prop} (h : tDT K (tAnd' m n) σ H Q) : tAnd (tDT K m) (tDT K n) σ H Q := by
  obtain ⟨F, ρ, x, ρ', R, em, k⟩ := h
  obtain ⟨b, ρ1, e1, em⟩ := bd_inv em
  refine ⟨F, ρ, b, ρ1, R, e1, fun H1 s1 => ?_⟩
  cases b with
  | true => rw [if_pos rfl]; exact ⟨F, ρ1, x, ρ', s1.rel, em, fun H2 s2 => k H2 (s1.trans s2)⟩
  | false => cases em; rw [if_neg (by decide)]; exact k H1 s1
theorem or_w {σ : St} {H : Hp} {Q : Bool → Hp → Prop} (h : tDT K (tOr' m n) σ H Q) : tOr (tDT K m) (tDT K n) σ H Q := by
  obtain ⟨F, ρ, x, ρ', R, em, k⟩ := h
  obtain ⟨b, ρ1, e1, em⟩ := bd_inv em
  refine ⟨F, ρ, b, ρ1, R, e1, fun H1 s1 => ?_⟩
  cases b with
  | true => cases em; rw [if_pos rfl]; exact k H1 s1
  | false => rw [if_neg (by decide)]; exact ⟨F, ρ1, x, ρ', s1.rel, em, fun H2 s2 => k H2 (s1.trans s2)⟩
theorem dw_and1 (ha : DT X a m) : DW X (.BoolOp .And [a] pos) m := pw_and1 ha
theorem dw_or1 (ha : DT X a m) : DW X (.BoolOp .Or [a] pos) m := pw_or1 ha
theorem dw_and (ha : DT X a m) (hb : DW X (.BoolOp .And (b :: rest) pos) n) : DW X (.BoolOp .And (a :: b :: rest) pos) (tAnd' m n) := pw_weak (pw_and ha hb) fun _ _ _ h => and_w h
theorem dw_or (ha : DT X a m) (hb : DW X (.BoolOp .Or (b :: rest) pos) n) : DW X (.BoolOp .Or (a :: b :: rest) pos) (tOr' m n) := pw_weak (pw_or ha hb) fun _ _ _ h => or_w h
theorem dt_w {e : Expr} (h : DW X e m) : DT X e m := PW.pt h
theorem dt_not (ha : DT X a m) : DT X (.UnaryOp .Not a pos) (tNot' m) := pt_weak (pt_not ha) fun σ H Q ⟨F, ρ, x, ρ', R, em, k⟩ => by
  obtain ⟨b, ρ1, e1, em⟩ := bd_inv em
  cases em
  exact ⟨F, ρ, b, _, R, e1, fun H1 s1 => k H1 s1⟩
/-- as values (of bools) -/
def eAnd (m n : EV) : EV := bd m fun x ρ => match x with
  | .v (.bl true) => n ρ
  | .v (.bl false) => some (.v (.bl false), ρ)
  | _ => none
def eOr (m n : EV) : EV := bd m fun x ρ => match x with
  | .v (.bl true) => some (.v (.bl true), ρ)
  | .v (.bl false) => n ρ
  | _ => none
def eNot (m : EV) : EV := bd m fun x ρ => match x with
  | .v (.bl b) => some (.v (.bl (!b)), ρ)
  | _ => none
variable {m' n' : EV}
theorem de_one {op} (h : DE X a m') : DE X (.BoolOp op [a] pos) m' := pe_one h
theorem de_and (ha : DE X a m') (hb : DE X (.BoolOp .And (b :: rest) pos) n') : DE X (.BoolOp .And (a :: b :: rest) pos) (eAnd m' n') := pe_weak (pe_and ha hb) fun σ H Q ⟨F, ρ, x, ρ', R, em, k⟩ => by
  obtain ⟨y, ρ1, e1, em⟩ := bd_inv em
  refine ⟨F, ρ, y, ρ1, R, e1, fun H1 v s1 r1 => ?_⟩
  split at em
  · refine ⟨true, by cases r1; rfl, ?_⟩
    rw [if_pos rfl]
    exact ⟨F, ρ1, x, ρ', s1.rel, em, fun H2 w s2 r2 => k H2 w (s1.trans s2) r2⟩
  · cases em
    refine ⟨false, by cases r1; rfl, ?_⟩
    rw [if_neg (by decide)]
    exact k H1 _ s1 (.bl _)
  · cases em
theorem de_or (ha : DE X a m') (hb : DE X (.BoolOp .Or (b :: rest) pos) n') : DE X (.BoolOp .Or (a :: b :: rest) pos) (eOr m' n') := pe_weak (pe_or ha hb) fun σ H Q ⟨F, ρ, x, ρ', R, em, k⟩ => by
  obtain ⟨y, ρ1, e1, em⟩ := bd_inv em
  refine ⟨F, ρ, y, ρ1, R, e1, fun H1 v s1 r1 => ?_⟩
  split at em
  · cases em
    refine ⟨true, by cases r1; rfl, ?_⟩
    rw [if_pos rfl]
    exact k H1 _ s1 (.bl _)
  · refine ⟨false, by cases r1; rfl, ?_⟩
    rw [if_neg (by decide)]
    exact ⟨F, ρ1, x, ρ', s1.rel, em, fun H2 w s2 r2 => k H2 w (s1.trans s2) r2⟩
  · cases em
theorem de_not (ha : DE X a m') : DE X (.UnaryOp .Not a pos) (eNot m') := pe_weak (pe_not ha) fun σ H Q ⟨F, ρ, x, ρ', R, em, k⟩ => by
  obtain ⟨y, ρ1, e1, em⟩ := bd_inv em
  refine ⟨F, ρ, y, ρ1, R, e1, fun H1 v s1 r1 => ?_⟩
  split at em
  · cases em; exact ⟨_, by cases r1; rfl, k H1 _ s1 (.bl _)⟩
  · cases em
def eIf (c : TV) (m n : EV) : EV := bd c fun b ρ => match b with
  | true => m ρ
  | false => n ρ
theorem de_if {c e1 e2 : Expr} (hc : DT X c m) (ha : DE X e1 m') (hb : DE X e2 n') : DE X (.IfExp c e1 e2 pos) (eIf m m' n') := pe_weak (pe_ifExp hc ha hb) fun σ H Q ⟨F, ρ, x, ρ', R, em, k⟩ => by
  obtain ⟨y, ρ1, e1, em⟩ := bd_inv em
  refine ⟨F, ρ, y, ρ1, R, e1, fun H1 s1 => ?_⟩
  cases y with
  | true => rw [if_pos rfl]; exact ⟨F, ρ1, x, ρ', s1.rel, em, fun H2 w s2 r2 => k H2 w (s1.trans s2) r2⟩
  | false => rw [if_neg (by decide)]; exact ⟨F, ρ1, x, ρ', s1.rel, em, fun H2 w s2 r2 => k H2 w (s1.trans s2) r2⟩
end
/-- one place -/
def m1 (f : D → Option D) (ma : EV) : EV := bd ma fun x ρ => ob (deref ρ x) fun d => ob (f d) fun z => some (.v z, ρ)
def negI : D → Option D
  | .int i => some (.int (-i))
  | _ => none
theorem de_neg {a : Expr} {ma : EV} {pos : Pos} (ha : DE X a ma) : DE X (.UnaryOp .USub a pos) (m1 negI ma) := pe_weak (pe_un un_neg ha) fun σ H Q ⟨F, ρ, x, ρ', R, em, k⟩ => by
  obtain ⟨y, ρ1, e1, em⟩ := bd_inv em
  obtain ⟨d, e2, em⟩ := ob_inv em
  obtain ⟨z, e3, em⟩ := ob_inv em
  cases em
  refine ⟨F, ρ, y, _, R, e1, fun H1 v s1 r1 => ?_⟩
  have t := s1.rel.top r1 e2
  unfold negI at e3
  split at e3
  · cases e3; exact ⟨_, t.int, k H1 _ s1 (.int _)⟩
  · cases e3
end
end DL

set_option Elab.async false
set_option linter.all false
set_option maxRecDepth 100000
namespace DL
open PySem PySem.Spec L2
set_option autoImplicit false

/-! ### argument lists, displays -/
def lNil : LV := fun ρ => some ([], ρ)
def lCons (m : EV) (ms : LV) : LV := bd m fun x => bd ms fun xs ρ => some (x :: xs, ρ)
def toVL (ρ : Env') : List A → Option (List D × Env')
  | [] => some ([], ρ)
  | x :: xs => match toV ρ x with
    | some (d, ρ1) => match toVL ρ1 xs with
      | some (ds, ρ2) => some (d :: ds, ρ2)
      | none => none
    | none => none
def lineOk (n : Nat) : Bool := decide (n ≤ 16777216)
theorem lineOk_of {n : Nat} (h : lineOk n = true) : n ≤ sizeLine := by rw [sizeLine_eq]; exact of_decide_eq_true h
section
variable {X : Cx} {K : PySem.W.Frag}
theorem da_nil : DA X [] lNil := pa_weak pa_nil fun σ H Q ⟨F, ρ, x, ρ', R, em, k⟩ => by
  cases em
  exact k H [] (.refl R) .nil
theorem da_cons {e : Expr} {es : List Expr} {m : EV} {ms : LV} (ha : DE X e m) (hr : DA X es ms) (hs : starEach (e :: es) X.env = (false, eval e X.env) :: starEach es X.env := by rfl) : DA X (e :: es) (lCons m ms) := pa_weak (pa_cons ha hr hs) fun σ H Q ⟨F, ρ, x, ρ', R, em, k⟩ => by
  obtain ⟨y, ρ1, e1, em⟩ := bd_inv em
  obtain ⟨ys, ρ2, e2, em⟩ := bd_inv em
  cases em
  exact ⟨F, ρ, y, ρ1, R, e1, fun H1 v s1 r1 => ⟨F, ρ1, ys, _, s1.rel, e2, fun H2 vs s2 r2 => k H2 _ (s1.trans s2) (.cons (r1.le s2.vle) r2)⟩⟩
theorem Rel.toVL {F : Fr0} {σ : St} {H : Hp} : ∀ {xs : List A} {vs : List V} {ρ ρ' : Env'} {ds : List D}, Rel K F ρ σ H → RepAL K (vis F ρ σ H) σ vs xs → toVL ρ xs = some (ds, ρ') → Stp K F ρ ρ' σ σ H H ∧ RepL K (vis F ρ' σ H) vs ds
  | [], _, ρ, _, _, R, r, e => by
    cases r
    cases e
    exact ⟨.refl R, .nil⟩
  | x :: xs, _, ρ, ρ', ds, R, r, e => by
    cases r with
    | cons r1 r2 =>
      simp only [DL.toVL] at e
      split at e
      · rename_i d ρ1 e1
        split at e
        · rename_i ds' ρ2 e2
          cases e
          obtain ⟨s1, q1⟩ := R.toV r1 e1
          obtain ⟨s2, q2⟩ := Rel.toVL s1.rel (r2.le s1.vle) e2
          exact ⟨s1.trans s2, .cons (Rep.le s2.vle q1) q2⟩
        · cases e
      · cases e
theorem toVL_len : ∀ {xs : List A} {ρ ρ' : Env'} {ds : List D}, toVL ρ xs = some (ds, ρ') → xs.length = ds.length
  | [], _, _, _, e => by cases e; rfl
  | x :: xs, ρ, ρ', ds, e => by
    simp only [toVL] at e
    split at e
    · split at e
      · rename_i e2; cases e; exact congrArg (· + 1) (toVL_len e2)
      · cases e
    · cases e
def mTup (ms : LV) : EV := bd ms fun xs ρ => ob (toVL ρ xs) fun p => grd (lineOk p.1.length) (some (.v (.tup p.1), p.2))
theorem Rel.newTup {F : Fr0} {ρ : Env'} {σ : St} {H : Hp} {vs : List V} {ds : List D} {p : Addr} (R : Rel K F ρ σ H) (r : RepL K (vis F ρ σ H) vs ds) (hp : H p = none) : Stp K F ρ ρ σ σ H (upd H p (.tup vs)) ∧ Rep K (vis F ρ σ (upd H p (.tup vs))) (.ref p) (.tup ds) := by
  have s := R.alloc hp (.tup vs)
  exact ⟨s, .tup (.inl (.inl (R.sees hp))) (RepL.le s.vle r)⟩
theorem de_tup {es : List Expr} {ms : LV} {x1 pos} (h : DA X es ms) : DE X (.Tuple es x1 pos) (mTup ms) := pe_weak (pe_tup h) fun σ H Q ⟨F, ρ, x, ρ', R, em, k⟩ => by
  obtain ⟨xs, ρ1, e1, em⟩ := bd_inv em
  obtain ⟨⟨ds, ρ2⟩, e2, em⟩ := ob_inv em
  obtain ⟨g, em⟩ := grd_inv em
  cases em
  refine ⟨F, ρ, xs, ρ1, R, e1, fun H1 vs s1 r1 => ?_⟩
  obtain ⟨s2, r2⟩ := s1.rel.toVL r1 e2
  refine ⟨by rw [r2.length]; exact lineOk_of g, fun p hp => ?_⟩
  obtain ⟨s3, r3⟩ := s2.rel.newTup r2 hp
  exact k _ _ ((s1.trans s2).trans s3) r3
/-- a new object that is to be a slot's own, or data -/
theorem Stp.newF {F : Fr0} {ρ ρ' : Env'} {σ : St} {H H1 : Hp} {p : Addr} {o : HO} {d : D} (s : Stp K F ρ ρ' σ σ H H1) (hp : H1 p = none) (r : HRep K (vis F ρ' σ H1) o d) :
    Rel K (fp F p) ρ' σ (upd H1 p o) ∧ upd H1 p o p = some o ∧ HRep K (vis (fp F p) ρ' σ (upd H1 p o)) o d ∧ ¬ F p ∧ Keep F H (upd H1 p o) ∧ Vle (vis F ρ σ H) (vis (fp F p) ρ' σ (upd H1 p o)) ∧ Pins ρ ρ' σ σ := by
  obtain ⟨a, b, c⟩ := s.rel.allocF hp o
  exact ⟨a, upd_same, HRep.le c r, fun z => s.rel.alo p z hp, s.keep.trans b, s.vle.trans c, s.pin⟩
def mLst (ms : LV) : FV := bd ms fun xs ρ => ob (toVL ρ xs) fun p => grd (lineOk p.1.length) (some (.lst p.1, p.2))
theorem df_lst {es : List Expr} {ms : LV} {pos} (h : DA X es ms) : DF X (.List es pos) (mLst ms) := pe_weak (pe_lst h) fun σ H Q ⟨F, ρ, x, ρ', R, em, k⟩ => by
  obtain ⟨xs, ρ1, e1, em⟩ := bd_inv em
  obtain ⟨⟨ds, ρ2⟩, e2, em⟩ := ob_inv em
  obtain ⟨g, em⟩ := grd_inv em
  cases em
  refine ⟨F, ρ, xs, ρ1, R, e1, fun H1 vs s1 r1 => ?_⟩
  obtain ⟨s2, r2⟩ := s1.rel.toVL r1 e2
  refine ⟨by rw [r2.length]; exact lineOk_of g, fun p hp => ?_⟩
  obtain ⟨a, b, c, d, e, f, g⟩ := (s1.trans s2).newF hp (o := .lst vs) (d := .lst ds) r2
  exact k _ p _ a b c d e f g

/-! ### the calls of defs -/
def spD (K : PySem.W.Frag) (n : Nat) (den : List D → Option D) : Sp := fun vs H Q _ => vs.length = n ∧ ∃ F ds d, (∀ a, F a → H a ≠ none) ∧ RepL K (hid F H) vs ds ∧ den ds = some d ∧
  ∀ H' v, Keep F H H' → Vle (hid F H) (hid F H') → Rep K (hid F H') v d → Q v H'
def mCall (den : List D → Option D) (ms : LV) : EV := bd ms fun xs ρ => ob (toVL ρ xs) fun p => ob (den p.1) fun d => some (.v d, p.2)
/-- behind a call that leaves the slots' own objects -/
theorem Rel.behind {F : Fr0} {ρ : Env'} {σ : St} {H H' : Hp} (R : Rel K F ρ σ H) (k : Keep (fo F ρ σ) H H') (m : Vle (vis F ρ σ H) (vis F ρ σ H')) : Stp K F ρ ρ σ σ H H' :=
  ⟨R.move m.toVleW (fun a h => k a (.inr h)) (fun _ _ h => h) fun a h => by rw [k a (.inl h)]; exact R.alo a h, fun a h => k a (.inl h), m, .refl _ _⟩
section
variable {k : Nat} {f : Addr} {fd : FuncData} {ps : List Str} {den : List D → Option D} {x : Str} {p pos : Pos} {e : Expr} {es : List Expr} {ms : LV}
theorem callD {σ : St} {H : Hp} {Q : VK} {n : Nat} (h : tD K (mCall den ms) σ H Q) (hl : ∀ ρ xs ρ', ms ρ = some (xs, ρ') → xs.length = n) : tCall (spD K n den) [] E0 (tDL K ms) σ H Q := by
  obtain ⟨F, ρ, x, ρ', R, em, k⟩ := h
  obtain ⟨xs, ρ1, e1, em⟩ := bd_inv em
  obtain ⟨⟨ds, ρ2⟩, e2, em⟩ := ob_inv em
  obtain ⟨d, e3, em⟩ := ob_inv em
  cases em
  refine ⟨F, ρ, xs, ρ1, R, e1, fun H1 vs s1 r1 => ?_⟩
  obtain ⟨s2, r2⟩ := s1.rel.toVL r1 e2
  refine ⟨?_, fo F ρ2 σ, ds, d, fun a ha => s2.rel.foNone ha, ?_, e3, fun H' v kp vl r => ?_⟩
  · rw [List.append_nil, r2.length, ← toVL_len e2]; exact hl _ _ _ e1
  · rw [List.append_nil]; exact r2
  · exact k H' v ((s1.trans s2).trans (s2.rel.behind kp vl)) r
end
/-- how many arguments a list has -/
def Len (n : Nat) (ms : LV) : Prop := ∀ ρ xs ρ', ms ρ = some (xs, ρ') → xs.length = n
theorem len_nil : Len 0 lNil := fun ρ xs ρ' e => by cases e; rfl
theorem len_cons {n : Nat} {m : EV} {ms : LV} (h : Len n ms) : Len (n + 1) (lCons m ms) := fun ρ xs ρ' e => by
  obtain ⟨y, ρ1, e1, em⟩ := bd_inv e
  obtain ⟨ys, ρ2, e2, em⟩ := bd_inv em
  cases em
  exact congrArg (· + 1) (h _ _ _ e2)
section
variable {k : Nat} {f : Addr} {fd : FuncData} {ps : List Str} {den : List D → Option D} {x : Str} {p pos : Pos} {e : Expr} {es : List Expr} {ms : LV} {n : Nat}
theorem de_call (F : FnOk X.prog X.w X.K X.mg X.base CX0 k f fd ps (spD X.K n den)) (hr : Room k X.A) (hg : Gl X x) (hm : X.mg x = some (.ref f)) (hk : PySem.W.keepIn X.K (.ref f) = true) (hb : Binds X.K fd ps []) (ha : DA X (e :: es) ms) (hl : Len n ms)
    (hdb : (x == ("__debug__" : Str)) = false := by decide) (he : starEach (e :: es) X.env = (false, eval e X.env) :: starEach es X.env := by rfl) (hpl : (backTo pos (starEach es X.env)).any (·.1) = false := by rfl) :
    DE X (.Call (.Name x p) (e :: es) [] pos) (mCall den ms) := pe_weak (pe_call F hr hg hm hk hb .nil pass0 ha hdb he hpl) fun σ H Q h => callD h hl

/-- a def that changes its first argument's object -/
def spIO (K : PySem.W.Frag) (n : Nat) (den : D → List D → Option (D × D)) : Sp := fun vs H Q _ => vs.length = n + 1 ∧ ∃ F a vr o d0 ds r d1, vs = .ref a :: vr ∧ (∀ a, F a → H a ≠ none) ∧ ¬ F a ∧ H a = some o ∧ HRep K (hid (fp F a) H) o d0 ∧ RepL K (hid (fp F a) H) vr ds ∧ den d0 ds = some (r, d1) ∧
  ∀ H' v o', Keep F H H' → Vle (hid (fp F a) H) (hid (fp F a) H') → H' a = some o' → HRep K (hid (fp F a) H') o' d1 → Rep K (hid (fp F a) H') v r → Q v H'
def owned (ρ : Env') (i : Nat) : Bool := match ρ[i]? with
  | some (some (.o _ _)) => true
  | _ => false
def mCallIO (den : D → List D → Option (D × D)) (i : Nat) (ms : LV) : EV := fun ρ => grd (owned ρ i) (bd ms (fun xs ρ => ob (toVL ρ xs) fun p => match p.2[i]? with
  | some (some (.o b d0)) => ob (den d0 p.1) fun q => some (.v q.1, p.2.set i (some (.o b q.2)))
  | _ => none) ρ)
theorem Rel.owned {F : Fr0} {ρ : Env'} {σ : St} {H : Hp} {i : Nat} (R : Rel K F ρ σ H) (h : owned ρ i = true) : ∃ a, σ[i]? = some (some (.ref a)) := by
  unfold DL.owned at h
  split at h
  · rename_i b d e
    obtain ⟨a, o, h1, _⟩ := R.own i b d e
    exact ⟨a, h1⟩
  · cases h
theorem Rel.io {F : Fr0} {ρ : Env'} {σ : St} {H H' : Hp} {i : Nat} {b : Bool} {d0 d1 : D} {a : Addr} {o' : HO} (R : Rel K F ρ σ H) (hi : ρ[i]? = some (some (.o b d0))) (ha : σ[i]? = some (some (.ref a)))
    (kp : Keep (fun c => fo F ρ σ c ∧ c ≠ a) H H') (vl : Vle (vis F ρ σ H) (vis F ρ σ H')) (e : H' a = some o') (h : HRep K (vis F ρ σ H') o' d1) :
    Stp K F ρ (ρ.set i (some (.o b d1))) σ σ H H' := by
  obtain ⟨a', o, h1, h2, h3, h4⟩ := R.own i b d0 hi
  rw [ha] at h1; cases h1
  have nF : ∀ c, F c → c ≠ a := fun c hc z => h4 (z ▸ hc)
  -- first the heap with a as it was
  have R2 : Rel K F ρ σ (upd H' a o) := R.move (by
      have ev : vis F ρ σ (upd H' a o) = vis F ρ σ H' := by
        funext c
        by_cases q : fo F ρ σ c
        · rw [vis_in q, vis_in q]
        · rw [vis_out q, vis_out q, upd_ne fun z => q (.inr (by rw [z]; exact ⟨i, b, d0, hi, ha⟩))]
      rw [ev]; exact vl.toVleW) (fun c hc => by
      by_cases q : c = a
      · rw [q, upd_same]; exact h2.symm
      · rw [upd_ne q]; exact kp c ⟨.inr hc, q⟩) (fun _ _ h => h) fun c hc => by
      rw [upd_ne (nF c hc), kp c ⟨.inl hc, nF c hc⟩]; exact R.alo c hc
  have ev : vis F ρ σ (upd H' a o) = vis F ρ σ H' := by
    funext c
    by_cases q : fo F ρ σ c
    · rw [vis_in q, vis_in q]
    · rw [vis_out q, vis_out q, upd_ne fun z => q (.inr (by rw [z]; exact ⟨i, b, d0, hi, ha⟩))]
  have s := R2.write (o' := o') (d' := d1) hi ha (by rw [ev]; exact h)
  have e2 : upd (upd H' a o) a o' = H' := by
    rw [upd_upd]
    funext c
    by_cases q : c = a
    · rw [q, upd_same, e]
    · rw [upd_ne q]
  rw [e2] at s
  exact ⟨s.rel, fun c hc => by rw [kp c ⟨.inl hc, nF c hc⟩], vl.trans (by have q := s.vle; rw [ev] at q; exact q), s.pin⟩
theorem fp_fo {F : Fr0} {ρ : Env'} {σ : St} {a : Addr} (h : OwnAt ρ σ a) {H : Hp} : hid (fp (fun c => fo F ρ σ c ∧ c ≠ a) a) H = vis F ρ σ H := by
  funext c
  by_cases q : fo F ρ σ c
  · rw [vis_in q]
    by_cases e : c = a
    · rw [hid_in (.inl e)]
    · rw [hid_in (.inr ⟨q, e⟩)]
  · rw [vis_out q, hid_out fun z => z.elim (fun z => q (.inr (z ▸ h))) fun z => q z.1]
theorem de_callIO {den' : D → List D → Option (D × D)} {i : Nat} {y : Str} {py : Pos} (F : FnOk X.prog X.w X.K X.mg X.base CX0 k f fd ps (spIO X.K n den')) (hr : Room k X.A) (hg : Gl X x) (hm : X.mg x = some (.ref f)) (hk : PySem.W.keepIn X.K (.ref f) = true) (hb : Binds X.K fd ps [])
    (hN : X.N[i]? = some y) (hv : Vis X.env.scope y) (ha : DA X es ms) (hl : Len n ms) (hd : (y == ("__debug__" : Str)) = false := by decide) (hcd : (y == ("__classdict__" : Str)) = false := by decide)
    (hs : starEach (.Name y py :: es) X.env = (false, eval (.Name y py) X.env) :: starEach es X.env := by rfl)
    (hdb : (x == ("__debug__" : Str)) = false := by decide) (hpl : (backTo pos (starEach es X.env)).any (·.1) = false := by rfl) :
    DE X (.Call (.Name x p) (.Name y py :: es) [] pos) (mCallIO den' i ms) := pe_weak (pe_call F hr hg hm hk hb .nil pass0 (pa_cons (pe_var hN hv hd hcd) ha hs) hdb hs hpl) fun σ H Q ⟨F, ρ, x, ρ', R, em, k⟩ => by
  obtain ⟨g, em⟩ := grd_inv em
  obtain ⟨a, ha0⟩ := R.owned g
  obtain ⟨xs, ρ1, e1, em⟩ := bd_inv em
  obtain ⟨⟨ds, ρ2⟩, e2, em⟩ := ob_inv em
  simp only at em
  split at em
  · rename_i b d0 hi
    obtain ⟨⟨r, d1⟩, e3, em⟩ := ob_inv em
    cases em
    refine ⟨.ref a, ha0, F, ρ, xs, ρ1, R, e1, fun H1 vs s1 r1 => ?_⟩
    obtain ⟨s2, r2⟩ := s1.rel.toVL r1 e2
    obtain ⟨a', o, h1, h2, h3, h4⟩ := s2.rel.own i b d0 hi
    rw [ha0] at h1; cases h1
    have hown : OwnAt ρ2 σ a := ⟨i, b, d0, hi, ha0⟩
    have hlen : vs.length = n := by rw [r2.length, ← toVL_len e2]; exact hl _ _ _ e1
    rw [List.append_nil]
    refine ⟨congrArg (· + 1) hlen, fun c => fo F ρ2 σ c ∧ c ≠ a, a, vs, o, d0, ds, r, d1, rfl, fun c hc => s2.rel.foNone hc.1, fun z => z.2 rfl, h2, ?_, ?_, e3, fun H' v o' kp vl e h rv => ?_⟩
    · rw [fp_fo hown]; exact h3
    · rw [fp_fo hown]; exact r2
    · rw [fp_fo hown] at h rv
      rw [fp_fo hown, fp_fo hown] at vl
      have s3 := s2.rel.io hi ha0 kp vl e h
      refine k H' v ((s1.trans s2).trans s3) ?_
      have ev : vis F (ρ2.set i (some (.o b d1))) σ H' = vis F ρ2 σ H' := by
        have hil : i < ρ2.length := (List.getElem?_eq_some_iff.mp hi).1
        funext c
        by_cases q : fo F ρ2 σ c
        · rw [vis_in q, vis_in]
          refine q.elim .inl fun ⟨j, b', e', g1, g2⟩ => .inr ?_
          by_cases z : i = j
          · subst z; exact ⟨i, b, d1, List.getElem?_set_self hil, g2⟩
          · exact ⟨j, b', e', by rw [List.getElem?_set_ne z]; exact g1, g2⟩
        · rw [vis_out q, vis_out]
          refine fun z => q (z.elim .inl fun ⟨j, b', e', g1, g2⟩ => .inr ?_)
          by_cases z : i = j
          · subst z; exact ⟨i, b, d0, hi, g2⟩
          · exact ⟨j, b', e', by rw [List.getElem?_set_ne z] at g1; exact g1, g2⟩
      show Rep X.K (vis F (ρ2.set i (some (.o b d1))) σ H') v r
      rw [ev]; exact rv
  · cases em
end
end
end DL

set_option Elab.async false
set_option linter.all false
set_option maxRecDepth 100000
namespace DL
open PySem PySem.Spec L2
set_option autoImplicit false

/-! ### statements -/
inductive Res where
  | nx (ρ : Env') | rt (d : D) (ρ : Env') | bk (ρ : Env') | ct (ρ : Env')
abbrev SVt := Env' → Option Res
def RPost (K : PySem.W.Frag) (F : Fr0) (ρ : Env') (σ : St) (H : Hp) (D : Ends) : Res → Prop
  | .nx ρ' => ∀ σ' H', Stp K F ρ ρ' σ σ' H H' → D.nx σ' H'
  | .rt d ρ' => ∀ σ' H' v, Stp K F ρ ρ' σ σ' H H' → Rep K (vis F ρ' σ' H') v d → D.rt v H'
  | .bk ρ' => ∀ σ' H', Stp K F ρ ρ' σ σ' H H' → D.bk σ' H'
  | .ct ρ' => ∀ σ' H', Stp K F ρ ρ' σ σ' H H' → D.ct σ' H'
def tDS (K : PySem.W.Frag) (m : SVt) : TS := fun D σ H => ∃ F ρ r, Rel K F ρ σ H ∧ m ρ = some r ∧ RPost K F ρ σ H D r
def DS (X : Cx) (st : Stmt) (m : SVt) : Prop := PS X st (tDS X.K m)
def DSs (X : Cx) (st : List Stmt) (m : SVt) : Prop := PSs X st (tDS X.K m)
theorem ps_weak {X : Cx} {e : Stmt} {t t' : TS} (h : PS X e t) (w : ∀ D σ H, t' D σ H → t D σ H) : PS X e t' := ⟨fun pins s σ H D I q => h.run pins s σ H D I (w D σ H q)⟩
theorem pss_weak {X : Cx} {e : List Stmt} {t t' : TS} (h : PSs X e t) (w : ∀ D σ H, t' D σ H → t D σ H) : PSs X e t' := ⟨fun pins s σ H D I q => h.run pins s σ H D I (w D σ H q)⟩
theorem ps_or {X : Cx} {e : Stmt} {t t' : TS} (h : PS X e t) (h' : PS X e t') : PS X e (fun D σ H => t D σ H ∨ t' D σ H) := ⟨fun pins s σ H D I q => q.elim (h.run pins s σ H D I) (h'.run pins s σ H D I)⟩
theorem pe_or' {X : Cx} {e : Expr} {t t' : TE} (h : PE X e t) (h' : PE X e t') : PE X e (fun σ H Q => t σ H Q ∨ t' σ H Q) := ⟨fun pins s σ H D I q => q.elim (h.run pins s σ H D I) (h'.run pins s σ H D I)⟩
section
variable {K : PySem.W.Frag} {F : Fr0} {ρ ρ1 : Env'} {σ σ1 : St} {H H1 : Hp} {D : Ends} {r : Res}
theorem RPost.step (s : Stp K F ρ ρ1 σ σ1 H H1) (h : RPost K F ρ σ H D r) : RPost K F ρ1 σ1 H1 D r := by
  cases r with
  | nx ρ' => exact fun σ' H' q => h σ' H' (s.trans q)
  | rt d ρ' => exact fun σ' H' v q rv => h σ' H' v (s.trans q) rv
  | bk ρ' => exact fun σ' H' q => h σ' H' (s.trans q)
  | ct ρ' => exact fun σ' H' q => h σ' H' (s.trans q)
end
def sNil : SVt := fun ρ => some (.nx ρ)
def sSeq (m n : SVt) : SVt := fun ρ => match m ρ with
  | some (.nx ρ1) => n ρ1
  | some (.rt d ρ1) => some (.rt d ρ1)
  | some (.bk ρ1) => some (.bk ρ1)
  | some (.ct ρ1) => some (.ct ρ1)
  | none => none
section
variable {X : Cx} {K : PySem.W.Frag}
theorem seqD {m n : SVt} {D : Ends} {σ : St} {H : Hp} (h : tDS K (sSeq m n) D σ H) : tDS K m { D with nx := tDS K n D } σ H := by
  obtain ⟨F, ρ, r, R, em, k⟩ := h
  unfold sSeq at em
  split at em
  · rename_i ρ1 e1
    exact ⟨F, ρ, _, R, e1, fun σ' H' s => ⟨F, ρ1, r, s.rel, em, k.step s⟩⟩
  · rename_i e1; cases em; exact ⟨F, ρ, _, R, e1, k⟩
  · rename_i e1; cases em; exact ⟨F, ρ, _, R, e1, k⟩
  · rename_i e1; cases em; exact ⟨F, ρ, _, R, e1, k⟩
  · cases em
theorem dss_nil : DSs X [] sNil := pss_weak pss_nil fun D σ H ⟨F, ρ, r, R, em, k⟩ => by
  cases em
  exact k σ H (.refl R)
theorem dss_cons {st : Stmt} {rest : List Stmt} {m n : SVt} (h1 : DS X st m) (h2 : DSs X rest n) : DSs X (st :: rest) (sSeq m n) := pss_weak (pss_cons h1 h2) fun D σ H h => seqD h
theorem dss_one {st : Stmt} {m : SVt} (h1 : DS X st m) : DSs X [st] m := pss_one h1
theorem ds_pass {pos : Pos} : DS X (.Pass pos) sNil := ps_weak ps_pass fun D σ H ⟨F, ρ, r, R, em, k⟩ => by
  cases em
  exact k σ H (.refl R)
theorem ds_break {pos : Pos} : DS X (.Break pos) (fun ρ => some (.bk ρ)) := ps_weak ps_break fun D σ H ⟨F, ρ, r, R, em, k⟩ => by
  cases em
  exact k σ H (.refl R)
theorem ds_continue {pos : Pos} : DS X (.Continue pos) (fun ρ => some (.ct ρ)) := ps_weak ps_continue fun D σ H ⟨F, ρ, r, R, em, k⟩ => by
  cases em
  exact k σ H (.refl R)
/-- what does not come to pass -/
def sNo : SVt := fun _ => none
theorem ds_never {st : Stmt} : DS X st sNo := ps_weak ps_never fun D σ H ⟨F, ρ, r, R, em, k⟩ => by cases em
theorem dss_never {st : List Stmt} : DSs X st sNo := pss_weak pss_never fun D σ H ⟨F, ρ, r, R, em, k⟩ => by cases em
def sExpr (m : EV) : SVt := fun ρ => match m ρ with
  | some (_, ρ1) => some (.nx ρ1)
  | none => none
theorem ds_expr {e : Expr} {m : EV} {pos : Pos} (he : DE X e m) (hs : swapsWith e none pos.line X.env = pure false := by rfl) : DS X (.Expr e pos) (sExpr m) := ps_weak (ps_expr he hs) fun D σ H ⟨F, ρ, r, R, em, k⟩ => by
  unfold sExpr at em
  split at em
  · rename_i x ρ1 e1; cases em
    exact ⟨F, ρ, x, ρ1, R, e1, fun H' v s _ => k σ H' s⟩
  · cases em
def sRet (m : EV) : SVt := fun ρ => ob (m ρ) fun p => ob (toV p.2 p.1) fun q => some (.rt q.1 q.2)
theorem ds_ret {e : Expr} {m : EV} {pos : Pos} (he : DE X e m) : DS X (.Return (some e) pos) (sRet m) := ps_weak (ps_ret he) fun D σ H ⟨F, ρ, r, R, em, k⟩ => by
  obtain ⟨⟨x, ρ1⟩, e1, em⟩ := ob_inv em
  obtain ⟨⟨d, ρ2⟩, e2, em⟩ := ob_inv em
  cases em
  refine ⟨F, ρ, x, ρ1, R, e1, fun H' v s rv => ?_⟩
  obtain ⟨s2, r2⟩ := s.rel.toV rv e2
  exact k σ H' v (s.trans s2) r2
def sIf (c : TV) (m n : SVt) : SVt := fun ρ => match c ρ with
  | some (true, ρ1) => m ρ1
  | some (false, ρ1) => n ρ1
  | none => none
theorem ds_if {c : Expr} {a b : List Stmt} {mc : TV} {m n : SVt} {pos : Pos} (hc : DT X c mc) (ha : DSs X a m) (hb : DSs X b n) : DS X (.If c a b pos) (sIf mc m n) := ps_weak (ps_if hc ha hb) fun D σ H ⟨F, ρ, r, R, em, k⟩ => by
  unfold sIf at em
  split at em
  · rename_i ρ1 e1
    refine ⟨F, ρ, true, ρ1, R, e1, fun H' s => ?_⟩
    exact iteT ⟨F, ρ1, r, s.rel, em, k.step s⟩
  · rename_i ρ1 e1
    refine ⟨F, ρ, false, ρ1, R, e1, fun H' s => ?_⟩
    exact iteF ⟨F, ρ1, r, s.rel, em, k.step s⟩
  · cases em
/-! targets -/
def canSet (ρ : Env') (i : Nat) : Bool := decide (i < ρ.length) && !pinned ρ i
theorem canSet_of {ρ : Env'} {i : Nat} (h : canSet ρ i = true) : i < ρ.length ∧ pinned ρ i = false := by
  unfold canSet at h
  rw [Bool.and_eq_true, Bool.not_eq_true'] at h
  exact ⟨of_decide_eq_true h.1, h.2⟩
abbrev GV := D → Env' → Option Env'
/-- a target takes data -/
def tDG (K : PySem.W.Frag) (vs : List Nat) (g : GV) : TG := fun v σ H Q => ∃ F ρ d ρ', Rel K F ρ σ H ∧ Rep K (vis F ρ σ H) v d ∧ g d ρ = some ρ' ∧ ∀ σ' H', Stp K F ρ ρ' σ σ' H H' → wipe σ' vs = wipe σ vs → Q σ' H'
def DG (X : Cx) (t : Expr) (vs : List Nat) (g : GV) : Prop := PG X t (tDG X.K vs g)
theorem wipe_set {σ : St} {i : Nat} {x : Option V} : ∀ {vs : List Nat}, i ∈ vs → wipe (σ.set i x) vs = wipe σ vs
  | [], h => by cases h
  | v :: vs, h => by
    unfold wipe
    by_cases hv : i ∈ vs
    · rw [wipe_set hv]
    · have e : i = v := by
        rcases List.mem_cons.mp h with e | e
        · exact e
        · exact absurd e hv
      subst e
      apply List.ext_getElem?
      intro j
      have l1 : (wipe (σ.set i x) vs).length = (wipe σ vs).length := by rw [wipe_length, wipe_length, List.length_set]
      by_cases hj : i = j
      · subst hj
        rw [List.getElem?_set, List.getElem?_set, l1, if_pos rfl, if_pos rfl]
      · rw [List.getElem?_set_ne hj, List.getElem?_set_ne hj]
        by_cases hm : j ∈ vs
        · have q : ∀ τ : St, (wipe τ vs)[j]? = if j < τ.length then some none else none := fun τ => by
            clear l1 hv h
            induction vs with
            | nil => cases hm
            | cons w ws ih =>
              unfold wipe
              by_cases hw : w = j
              · subst hw
                rw [List.getElem?_set]
                simp only [if_true, wipe_length]
              · rw [List.getElem?_set_ne hw]
                exact ih (by rcases List.mem_cons.mp hm with e | e; exact absurd e.symm hw; exact e)
          rw [q, q, List.length_set]
        · rw [wipe_out hm, wipe_out hm, List.getElem?_set_ne hj]
theorem pg_weak {X : Cx} {e : Expr} {t t' : TG} (h : PG X e t) (w : ∀ v σ H Q, t' v σ H Q → t v σ H Q) : PG X e t' := ⟨fun pins s σ H v u Q I r q => h.run pins s σ H v u Q I r (w v σ H Q q)⟩
theorem pgs_weak {X : Cx} {e : List Expr} {t t' : TGs} (h : PGs X e t) (w : ∀ v σ H Q, t' v σ H Q → t v σ H Q) : PGs X e t' := ⟨fun pins s σ H v u Q I r q => h.run pins s σ H v u Q I r (w v σ H Q q)⟩
def gVar (i : Nat) : GV := fun d ρ => grd (canSet ρ i) (some (ρ.set i (some (.v d))))
theorem dg_var {i : Nat} {x : Str} {pos : Pos} (hN : X.N.Nodup) (hi : X.N[i]? = some x) (hx : Loc X.env.scope x) (hf : X.fn x = true ∨ X.env.scope.names.lookup x = some .local := by first | exact .inl rfl | exact .inr rfl | assumption) {vs : List Nat} (hv : i ∈ vs := by decide) : DG X (.Name x pos) vs (gVar i) :=
  pg_weak (pg_name hN hi hx hf) fun v σ H Q ⟨F, ρ, d, ρ', R, rv, eg, k⟩ => by
  obtain ⟨g, eg⟩ := grd_inv eg
  cases eg
  exact k _ H (R.setV (canSet_of g).1 (canSet_of g).2 rv) (wipe_set hv)
abbrev GVs := List D → Env' → Option Env'
def tDGs (K : PySem.W.Frag) (ws : List Nat) (g : GVs) : TGs := fun vs σ H Q => ∃ F ρ ds ρ', Rel K F ρ σ H ∧ RepL K (vis F ρ σ H) vs ds ∧ g ds ρ = some ρ' ∧ ∀ σ' H', Stp K F ρ ρ' σ σ' H H' → wipe σ' ws = wipe σ ws → Q σ' H'
def DGs (X : Cx) (ts : List Expr) (ws : List Nat) (g : GVs) : Prop := PGs X ts (tDGs X.K ws g)
def gNil' : GVs := fun ds ρ => match ds with
  | [] => some ρ
  | _ => none
def gCons' (g : GV) (gs : GVs) : GVs := fun ds ρ => match ds with
  | d :: r => ob (g d ρ) fun ρ1 => gs r ρ1
  | [] => none
theorem dgs_nil {ws : List Nat} : DGs X [] ws gNil' := pgs_weak pgs_nil fun vs σ H Q ⟨F, ρ, ds, ρ', R, rv, eg, k⟩ => by
  unfold gNil' at eg
  split at eg
  · cases eg; cases rv; exact ⟨rfl, k σ H (.refl R) rfl⟩
  · cases eg
theorem dgs_cons {e : Expr} {es : List Expr} {ws : List Nat} {g : GV} {gs : GVs} (h1 : DG X e ws g) (h2 : DGs X es ws gs) (hs : (assignEach (e :: es) X.env).map (·.2) = assign e X.env :: (assignEach es X.env).map (·.2) := by rfl) : DGs X (e :: es) ws (gCons' g gs) :=
  pgs_weak (pgs_cons h1 h2 hs) fun vs σ H Q ⟨F, ρ, ds, ρ', R, rv, eg, k⟩ => by
  unfold gCons' at eg
  split at eg
  · rename_i d r
    obtain ⟨ρ1, e1, eg⟩ := ob_inv eg
    cases rv with
    | cons r1 r2 => exact ⟨_, _, rfl, F, ρ, d, ρ1, R, r1, e1, fun σ1 H1 s1 w1 => ⟨F, ρ1, r, ρ', s1.rel, RepL.le s1.vle r2, eg, fun σ2 H2 s2 w2 => k σ2 H2 (s1.trans s2) (w2.trans w1)⟩⟩
  · cases eg
def gTup' (n : Nat) (gs : GVs) : GV := fun d ρ => match d with
  | .tup ds => grd (decide (ds.length = n)) (gs ds ρ)
  | _ => none
theorem dg_tup {es : List Expr} {k : Nat} {ws : List Nat} {gs : GVs} {n : Nat} {pos : Pos} (hc : X.calm = true) (h : DGs X es ws gs) (hn : (assignEach es X.env).length = n := by rfl) (hst : (assignEach es X.env).findIdx? (·.1) = none := by rfl) : DG X (.Tuple es k pos) ws (gTup' n gs) :=
  pg_weak (pg_tup hc h hn hst) fun v σ H Q ⟨F, ρ, d, ρ', R, rv, eg, k⟩ => by
  unfold gTup' at eg
  split at eg
  · obtain ⟨g, eg⟩ := grd_inv eg
    obtain ⟨a, xs, e1, h1, h2⟩ := (Top.rep (H := H) rv).tup
    exact ⟨a, xs, e1, h1, by rw [h2.length]; exact of_decide_eq_true g, F, ρ, _, ρ', R, h2, eg, k⟩
  · cases eg
/-! assignments -/
def sSet (g : GV) (m : EV) : SVt := fun ρ => ob (m ρ) fun p => ob (toV p.2 p.1) fun q => ob (g q.1 q.2) fun ρ3 => some (.nx ρ3)
theorem setD {ws : List Nat} {g : GV} {m : EV} {D : Ends} {σ : St} {H : Hp} (h : tDS K (sSet g m) D σ H) : tAsg (tD K m) (tDG K ws g) D σ H := by
  obtain ⟨F, ρ, r, R, em, k⟩ := h
  obtain ⟨⟨x, ρ1⟩, e1, em⟩ := ob_inv em
  obtain ⟨⟨d, ρ2⟩, e2, em⟩ := ob_inv em
  obtain ⟨ρ3, e3, em⟩ := ob_inv em
  cases em
  refine ⟨F, ρ, x, ρ1, R, e1, fun H' v s rv => ?_⟩
  obtain ⟨s2, r2⟩ := s.rel.toV rv e2
  exact ⟨F, ρ2, d, ρ3, s2.rel, r2, e3, fun σ' H2 s3 _ => k σ' H2 ((s.trans s2).trans s3)⟩
theorem gName_of {i : Nat} {v : V} {σ : St} {H : Hp} {Q : St → Hp → Prop} (h : tDG K [i] (gVar i) v σ H Q) : gName i v σ H Q := by
  obtain ⟨F, ρ, d, ρ', R, rv, eg, k⟩ := h
  obtain ⟨g, eg⟩ := grd_inv eg
  cases eg
  exact k _ H (R.setV (canSet_of g).1 (canSet_of g).2 rv) (wipe_set (List.mem_singleton.mpr rfl))
theorem tD_mono {m : EV} {σ : St} {H : Hp} {Q Q' : VK} (h : tD K m σ H Q) (w : ∀ v H, Q v H → Q' v H) : tD K m σ H Q' := by
  obtain ⟨F, ρ, x, ρ', R, em, k⟩ := h
  exact ⟨F, ρ, x, ρ', R, em, fun H' v s r => w _ _ (k H' v s r)⟩
theorem ds_set {i : Nat} {x : Str} {e : Expr} {m : EV} {pos' pos : Pos} (hN : X.N.Nodup) (hi : X.N[i]? = some x) (hx : Loc X.env.scope x) (he : DE X e m) (hs : swapsWith e (some (.Name x pos')) pos.line X.env = pure false := by rfl) (hf : X.fn x = true ∨ X.env.scope.names.lookup x = some .local := by first | exact .inl rfl | exact .inr rfl | assumption) :
    DS X (.Assign [.Name x pos'] e pos) (sSet (gVar i) m) := ps_weak (ps_set hN hi hx he hs hf) fun D σ H h => tD_mono (setD h) fun v H q => gName_of q
theorem ds_asg {tg e : Expr} {m : EV} {ws : List Nat} {g : GV} {pos : Pos} (he : DE X e m) (hg : DG X tg ws g) (hs : swapsWithSole [tg] e pos.line X.env = pure false := by rfl) (hw : swappedStores [tg] e X.env = pure none := by rfl)
    (h1 : (assignEach [tg] X.env).map (·.2) = [assign tg X.env] := by rfl) : DS X (.Assign [tg] e pos) (sSet g m) := ps_weak (ps_asg he hg hs hw h1) fun D σ H h => setD h
/-- a fresh object becomes the slot's own -/
def sSetF (i : Nat) (m : FV) : SVt := fun ρ => ob (m ρ) fun p => grd (canSet p.2 i) (some (.nx (p.2.set i (some (.o false p.1)))))
theorem setFD {i : Nat} {m : FV} {D : Ends} {σ : St} {H : Hp} (h : tDS K (sSetF i m) D σ H) : tAsg (tDF K m) (gName i) D σ H := by
  obtain ⟨F, ρ, r, R, em, k⟩ := h
  obtain ⟨⟨d, ρ1⟩, e1, em⟩ := ob_inv em
  obtain ⟨g, em⟩ := grd_inv em
  cases em
  refine ⟨F, ρ, d, ρ1, R, e1, fun H' p o R' ep ho nf kp vl pn => ?_⟩
  obtain ⟨a, b, c⟩ := R'.setO nf (canSet_of g).1 (canSet_of g).2 ep ho
  exact k _ H' ⟨a, kp, vl.trans b, pn.trans c⟩
theorem ds_setF {i : Nat} {x : Str} {e : Expr} {m : FV} {pos' pos : Pos} (hN : X.N.Nodup) (hi : X.N[i]? = some x) (hx : Loc X.env.scope x) (he : DF X e m) (hs : swapsWith e (some (.Name x pos')) pos.line X.env = pure false := by rfl) (hf : X.fn x = true ∨ X.env.scope.names.lookup x = some .local := by first | exact .inl rfl | exact .inr rfl | assumption) :
    DS X (.Assign [.Name x pos'] e pos) (sSetF i m) := ps_weak (ps_set hN hi hx he hs hf) fun D σ H h => setFD h
/-- a, b = x, y -/
def sPar (i j : Nat) (m n : EV) : SVt := fun ρ => ob (lCons m (lCons n lNil) ρ) fun p => ob (toVL p.2 p.1) fun q => match q.1 with
  | [d, e] => grd (canSet q.2 i && canSet q.2 j && decide (i ≠ j)) (some (.nx ((q.2.set i (some (.v d))).set j (some (.v e)))))
  | _ => none
theorem pinned_set {ρ : Env'} {i j : Nat} {d : D} (h : i ≠ j) : pinned (ρ.set i (some (.v d))) j = pinned ρ j := by
  unfold pinned
  rw [List.getElem?_set_ne h]
theorem ds_par {i j : Nat} {x y : Str} {a b : Expr} {m n : EV} {px py pt pos : Pos} {kt k2 pt2} (hc : X.calm = true) (hN : X.N.Nodup) (hi : X.N[i]? = some x) (hj : X.N[j]? = some y) (hij : i ≠ j)
    (hx : X.env.scope.names.lookup x = some .local) (hy : X.env.scope.names.lookup y = some .local) (ha : DE X a m) (hb : DE X b n)
    (hw : swappedStores [.Tuple [.Name x px, .Name y py] kt pt] (.Tuple [a, b] k2 pt2) X.env = pure (some [x, y]))
    (hs : swapsWithSole [.Tuple [.Name x px, .Name y py] kt pt] (.Tuple [a, b] k2 pt2) pos.line X.env = pure false := by rfl)
    (h1 : starEach [a, b] X.env = (false, eval a X.env) :: starEach [b] X.env := by rfl) (h2 : starEach [b] X.env = (false, eval b X.env) :: starEach [] X.env := by rfl) :
    DS X (.Assign [.Tuple [.Name x px, .Name y py] kt pt] (.Tuple [a, b] k2 pt2) pos) (sPar i j m n) := ps_weak (ps_par hc hN hi hj hij hx hy (da_cons ha (da_cons hb da_nil h2) h1) hw hs) fun D σ H ⟨F, ρ, r, R, em, k⟩ => by
  obtain ⟨⟨xs, ρ1⟩, e1, em⟩ := ob_inv em
  obtain ⟨⟨ds, ρ2⟩, e2, em⟩ := ob_inv em
  split at em
  · rename_i d e hd
    obtain ⟨g, em⟩ := grd_inv em
    cases em
    rw [Bool.and_eq_true, Bool.and_eq_true] at g
    refine ⟨F, ρ, xs, ρ1, R, e1, fun H' vs s rv => ?_⟩
    obtain ⟨s2, r2⟩ := s.rel.toVL rv e2
    simp only at hd
    subst hd
    cases r2 with
    | cons q1 q2 =>
      cases q2 with
      | cons q2 q3 =>
        cases q3
        refine ⟨_, _, rfl, ?_⟩
        have s3 := s2.rel.setV (canSet_of g.1.1).1 (canSet_of g.1.1).2 q1
        have s4 := s3.rel.setV (i := j) (by rw [List.length_set]; exact (canSet_of g.1.2).1) (by rw [pinned_set (of_decide_eq_true g.2)]; exact (canSet_of g.1.2).2) (Rep.le s3.vle q2)
        exact k _ H' (((s.trans s2).trans s3).trans s4)
  · cases em
end
end DL

set_option Elab.async false
set_option linter.all false
set_option maxRecDepth 100000
namespace DL
open PySem PySem.Spec L2
set_option autoImplicit false

/-! ### what is walked -/
abbrev LI := Env' → Option (List D × Env')
structure ItW (K : PySem.W.Frag) (F : Fr0) (ρ0 : Env') (σ0 : St) (H0 : Hp) (J : It) (items : List D) : Prop where
  go : ∀ i ρ σ H, Rel K F ρ σ H → Vle (vis F ρ0 σ0 H0) (vis F ρ σ H) → i < items.length → J.go i H
  stop : ∀ i ρ σ H, Rel K F ρ σ H → Vle (vis F ρ0 σ0 H0) (vis F ρ σ H) → items.length ≤ i → J.stop i H
  yld : ∀ i ρ σ H x H', Rel K F ρ σ H → Vle (vis F ρ0 σ0 H0) (vis F ρ σ H) → i < items.length → J.yld i H x H' → Stp K F ρ ρ σ σ H H' ∧ ∃ d, items[i]? = some d ∧ Rep K (vis F ρ σ H') x d
def tDI (K : PySem.W.Frag) (m : LI) : TI := fun σ H R => ∃ F ρ items ρ', Rel K F ρ σ H ∧ m ρ = some (items, ρ') ∧ ∀ H' J, Stp K F ρ ρ' σ σ H H' → (∀ F' H'', Rel K F' ρ' σ H'' → Vle (vis F ρ' σ H') (vis F' ρ' σ H'') → ItW K F' ρ' σ H'' J items) → R J H'
def DI (X : Cx) (tg iter : Expr) (m : LI) : Prop := PI X tg iter (tDI X.K m)
theorem pi_weak {X : Cx} {tg e : Expr} {t t' : TI} (h : PI X tg e t) (w : ∀ σ H Q, t' σ H Q → t σ H Q) : PI X tg e t' := ⟨fun pins s σ H Q I q => h.run pins s σ H Q I (w σ H Q q)⟩
section
variable {X : Cx} {K : PySem.W.Frag} {tg : Expr}
/-- a list or tuple that is settled -/
def iSeq (m : EV) : LI := fun ρ => ob (m ρ) fun p => ob (toV p.2 p.1) fun q => match q.1 with
  | .lst ds => some (ds, q.2)
  | _ => none
def iSeqT (m : EV) : LI := fun ρ => ob (m ρ) fun p => ob (toV p.2 p.1) fun q => match q.1 with
  | .tup ds => some (ds, q.2)
  | _ => none
theorem itw_list {F : Fr0} {ρ : Env'} {σ : St} {H : Hp} {a : Addr} {xs : List V} {ds : List D} (e : vis F ρ σ H a = some (.lst xs)) (r : RepL K (vis F ρ σ H) xs ds) : ItW K F ρ σ H (Itl K a) ds := by
  have q : ∀ ρ' σ' H', Vle (vis F ρ σ H) (vis F ρ' σ' H') → H' a = some (.lst xs) := fun ρ' σ' H' m => (hid_some (m.ex a (.lst xs) trivial e)).1
  refine ⟨fun i ρ' σ' H' R m hi => ?_, fun i ρ' σ' H' R m hi => ?_, fun i ρ' σ' H' x H2 R m hi y => ?_⟩
  · have hl : i < xs.length := by rw [r.length]; exact hi
    exact ⟨xs, xs[i], .inl (.inl (q _ _ _ m)), List.getElem?_eq_getElem hl⟩
  · exact ⟨xs, .inl (.inl (q _ _ _ m)), by rw [r.length]; exact hi⟩
  · obtain ⟨rfl, y⟩ := y
    have hx := y xs (.inl (.inl (q _ _ _ m)))
    obtain ⟨v, h1, h2⟩ := r.get (List.getElem?_eq_getElem hi)
    rw [hx] at h1; cases h1
    exact ⟨.refl R, _, List.getElem?_eq_getElem hi, Rep.le m h2⟩
theorem itw_tup {F : Fr0} {ρ : Env'} {σ : St} {H : Hp} {a : Addr} {xs : List V} {ds : List D} (e : SqT K (vis F ρ σ H) a xs) (r : RepL K (vis F ρ σ H) xs ds) : ItW K F ρ σ H (Itt K a) ds := by
  have q : ∀ ρ' σ' H', Vle (vis F ρ σ H) (vis F ρ' σ' H') → SqT K H' a xs := fun ρ' σ' H' m => sqT_vis (SqT.leW m.toVleW e)
  refine ⟨fun i ρ' σ' H' R m hi => ?_, fun i ρ' σ' H' R m hi => ?_, fun i ρ' σ' H' x H2 R m hi y => ?_⟩
  · have hl : i < xs.length := by rw [r.length]; exact hi
    exact ⟨xs, xs[i], q _ _ _ m, List.getElem?_eq_getElem hl⟩
  · exact ⟨xs, q _ _ _ m, by rw [r.length]; exact hi⟩
  · obtain ⟨rfl, y⟩ := y
    have hx := y xs (q _ _ _ m)
    obtain ⟨v, h1, h2⟩ := r.get (List.getElem?_eq_getElem hi)
    rw [hx] at h1; cases h1
    exact ⟨.refl R, _, List.getElem?_eq_getElem hi, Rep.le m h2⟩
theorem di_list {e : Expr} {m : EV} (h : DE X e m) : DI X tg e (iSeq m) := pi_weak (pi_list h) fun σ H Q ⟨F, ρ, items, ρ', R, em, k⟩ => by
  obtain ⟨⟨x, ρ1⟩, e1, em⟩ := ob_inv em
  obtain ⟨⟨d, ρ2⟩, e2, em⟩ := ob_inv em
  simp only at em
  split at em
  · rename_i ds
    cases em
    refine ⟨F, ρ, x, ρ1, R, e1, fun H1 v s1 r1 => ?_⟩
    obtain ⟨s2, r2⟩ := s1.rel.toV r1 e2
    cases r2 with
    | lst e r =>
      refine ⟨_, rfl, ⟨_, .inl (.inl (hid_some e).1)⟩, k H1 _ (s1.trans s2) fun F' H2 R' m => itw_list (m.ex _ (.lst _) trivial e) (RepL.le m r)⟩
  · cases em
theorem di_tup {e : Expr} {m : EV} (h : DE X e m) : DI X tg e (iSeqT m) := pi_weak (pi_tup h) fun σ H Q ⟨F, ρ, items, ρ', R, em, k⟩ => by
  obtain ⟨⟨x, ρ1⟩, e1, em⟩ := ob_inv em
  obtain ⟨⟨d, ρ2⟩, e2, em⟩ := ob_inv em
  simp only at em
  split at em
  · rename_i ds
    cases em
    refine ⟨F, ρ, x, ρ1, R, e1, fun H1 v s1 r1 => ?_⟩
    obtain ⟨s2, r2⟩ := s1.rel.toV r1 e2
    cases r2 with
    | tup e r =>
      refine ⟨_, rfl, ⟨_, sqT_vis e⟩, k H1 _ (s1.trans s2) fun F' H2 R' m => itw_tup (SqT.leW m.toVleW e) (RepL.le m r)⟩
  · cases em
/-- range -/
def rngL (lo : Int) (n : Nat) : List D := (List.range n).map fun (i : Nat) => D.int (lo + (i : Int))
theorem itw_range {F : Fr0} {ρ : Env'} {σ : St} {H : Hp} {lo : Int} {n : Nat} : ItW K F ρ σ H (Itr lo n) (rngL lo n) := by
  have hl : (rngL lo n).length = n := by unfold rngL; simp
  refine ⟨fun i ρ' σ' H' R m hi => by rw [hl] at hi; exact hi, fun i ρ' σ' H' R m hi => by rw [hl] at hi; exact hi, fun i ρ' σ' H' x H2 R m hi y => ?_⟩
  obtain ⟨rfl, rfl⟩ := y
  rw [hl] at hi
  refine ⟨.refl R, .int (lo + (i : Int)), ?_, .int _⟩
  unfold rngL
  rw [List.getElem?_map, List.getElem?_range hi]
  rfl
def iRange1 (m : EV) : LI := fun ρ => ob (lCons m lNil ρ) fun p => ob (toVL p.2 p.1) fun q => match q.1 with
  | [.int j] => grd (decide (-(2 ^ 62) ≤ j ∧ j < 2 ^ 62)) (some (rngL 0 j.toNat, q.2))
  | _ => none
def iRange2 (m n : EV) : LI := fun ρ => ob (lCons m (lCons n lNil) ρ) fun p => ob (toVL p.2 p.1) fun q => match q.1 with
  | [.int i, .int j] => grd (decide (-(2 ^ 62) ≤ i ∧ i < 2 ^ 62 ∧ -(2 ^ 62) ≤ j ∧ j < 2 ^ 62)) (some (rngL i (j - i).toNat, q.2))
  | _ => none
theorem di_range1 {a : Expr} {m : EV} {p pos : Pos} (hg : Gl X "range") (hm : X.mg "range" = none) (ha : DE X a m) (hs : starEach [a] X.env = [(false, eval a X.env)] := by rfl) (hs1 : starEach [a] X.env = (false, eval a X.env) :: starEach [] X.env := by rfl) : DI X tg (.Call (.Name "range" p) [a] [] pos) (iRange1 m) :=
  pi_weak (pi_range1 hg hm (da_cons ha da_nil hs1) hs) fun σ H Q ⟨F, ρ, items, ρ', R, em, k⟩ => by
  obtain ⟨⟨xs, ρ1⟩, e1, em⟩ := ob_inv em
  obtain ⟨⟨ds, ρ2⟩, e2, em⟩ := ob_inv em
  simp only at em
  split at em
  · rename_i j
    obtain ⟨g, em⟩ := grd_inv em
    cases em
    refine ⟨F, ρ, xs, ρ1, R, e1, fun H1 vs s1 r1 => ?_⟩
    obtain ⟨s2, r2⟩ := s1.rel.toVL r1 e2
    have g := of_decide_eq_true g
    cases r2 with
    | cons q1 q2 =>
      cases q1; cases q2
      exact ⟨j, rfl, g.1, g.2, k H1 _ (s1.trans s2) fun F' _ _ _ => itw_range⟩
  · cases em
theorem di_range2 {a b : Expr} {m n : EV} {p pos : Pos} (hg : Gl X "range") (hm : X.mg "range" = none) (ha : DE X a m) (hb : DE X b n) (hs : starEach [a, b] X.env = [(false, eval a X.env), (false, eval b X.env)] := by rfl)
    (hs1 : starEach [a, b] X.env = (false, eval a X.env) :: starEach [b] X.env := by rfl) (hs2 : starEach [b] X.env = (false, eval b X.env) :: starEach [] X.env := by rfl) (hs3 : starEach [b] X.env = [(false, eval b X.env)] := by rfl) : DI X tg (.Call (.Name "range" p) [a, b] [] pos) (iRange2 m n) :=
  pi_weak (pi_range2 hg hm (da_cons ha (da_cons hb da_nil hs2) hs1) hs hs3) fun σ H Q ⟨F, ρ, items, ρ', R, em, k⟩ => by
  obtain ⟨⟨xs, ρ1⟩, e1, em⟩ := ob_inv em
  obtain ⟨⟨ds, ρ2⟩, e2, em⟩ := ob_inv em
  simp only at em
  split at em
  · rename_i i j
    obtain ⟨g, em⟩ := grd_inv em
    cases em
    refine ⟨F, ρ, xs, ρ1, R, e1, fun H1 vs s1 r1 => ?_⟩
    obtain ⟨s2, r2⟩ := s1.rel.toVL r1 e2
    have g := of_decide_eq_true g
    cases r2 with
    | cons q1 q2 =>
      cases q1
      cases q2 with
      | cons q2 q3 =>
        cases q2; cases q3
        exact ⟨i, j, rfl, g, k H1 _ (s1.trans s2) fun F' _ _ _ => itw_range⟩
  · cases em

/-! ### for -/
def forL (g : GV) (b : SVt) : List D → SVt
  | [], ρ => some (.nx ρ)
  | d :: ds, ρ => match g d ρ with
    | some ρ1 => match b ρ1 with
      | some (.nx ρ2) => forL g b ds ρ2
      | some (.ct ρ2) => forL g b ds ρ2
      | some (.bk ρ2) => some (.nx ρ2)
      | some (.rt d ρ2) => some (.rt d ρ2)
      | none => none
    | none => none
def sFor (it : LI) (g : GV) (b : SVt) : SVt := fun ρ => match it ρ with
  | some (items, ρ1) => forL g b items ρ1
  | none => none
theorem forD {it : LI} {ws : List Nat} {g : GV} {b : SVt} {D : Ends} {σ : St} {H : Hp} (h : tDS K (sFor it g b) D σ H) : tFor (tDI K it) (tDG K ws g) (tDS K b) D σ H := by
  obtain ⟨F, ρ, r, R, em, k⟩ := h
  unfold sFor at em
  split at em
  · rename_i items ρ1 e1
    refine ⟨F, ρ, items, ρ1, R, e1, fun H1 J s1 hJ => ?_⟩
    have I := hJ F H1 s1.rel (.refl _)
    refine ⟨fun i m σ2 H2 => m = items.length - i ∧ i ≤ items.length ∧ ∃ ρ2, Rel K F ρ2 σ2 H2 ∧ Vle (vis F ρ1 σ H1) (vis F ρ2 σ2 H2) ∧ forL g b (items.drop i) ρ2 = some r ∧ RPost K F ρ2 σ2 H2 D r,
      ⟨items.length, by simp, Nat.zero_le _, ρ1, s1.rel, .refl _, by rw [List.drop_zero]; exact em, k.step s1⟩, ?_⟩
    rintro i m σ2 H2 ⟨rfl, hi, ρ2, R2, vl, e2, k2⟩
    by_cases hlt : i < items.length
    · have hd : items.drop i = items[i] :: items.drop (i + 1) := List.drop_eq_getElem_cons hlt
      rw [hd] at e2
      refine .inr ⟨I.go i ρ2 σ2 H2 R2 vl hlt, fun σ3 H3 => ∃ ρ3, Rel K F ρ3 σ3 H3 ∧ Vle (vis F ρ1 σ H1) (vis F ρ3 σ3 H3) ∧ forL g b (items.drop (i + 1)) ρ3 = some r ∧ RPost K F ρ3 σ3 H3 D r,
        fun σ3 H3 ⟨ρ3, a1, a2, a3, a4⟩ => ⟨items.length - (i + 1), by omega, rfl, hlt, ρ3, a1, a2, a3, a4⟩, fun x H3 y => ?_⟩
      obtain ⟨s3, d, hd', rd⟩ := I.yld i ρ2 σ2 H2 x H3 R2 vl hlt y
      rw [List.getElem?_eq_getElem hlt] at hd'
      cases hd'
      simp only [forL] at e2
      split at e2
      · rename_i ρ3 eg
        refine ⟨F, ρ2, _, ρ3, s3.rel, rd, eg, fun σ4 H4 s4 _ => ?_⟩
        have s34 := s3.trans s4
        split at e2
        · rename_i ρ5 eb
          exact ⟨F, ρ3, _, s4.rel, eb, fun σ5 H5 s5 => ⟨ρ5, s5.rel, vl.trans (s34.trans s5).vle, e2, k2.step (s34.trans s5)⟩⟩
        · rename_i ρ5 eb
          exact ⟨F, ρ3, _, s4.rel, eb, fun σ5 H5 s5 => ⟨ρ5, s5.rel, vl.trans (s34.trans s5).vle, e2, k2.step (s34.trans s5)⟩⟩
        · rename_i ρ5 eb
          cases e2
          exact ⟨F, ρ3, _, s4.rel, eb, fun σ5 H5 s5 => k2 σ5 H5 (s34.trans s5)⟩
        · rename_i d' ρ5 eb
          cases e2
          exact ⟨F, ρ3, _, s4.rel, eb, fun σ5 H5 v s5 rv => k2 σ5 H5 v (s34.trans s5) rv⟩
        · cases e2
      · cases e2
    · have e : i = items.length := by omega
      subst e
      rw [List.drop_length] at e2
      cases e2
      exact .inl ⟨I.stop _ ρ2 σ2 H2 R2 vl (Nat.le_refl _), k2 σ2 H2 (.refl R2)⟩
  · cases em
theorem ds_for {iter : Expr} {body : List Stmt} {it : LI} {ws : List Nat} {g : GV} {b : SVt} {pos : Pos} (hp : PassesOwn (model X.prog X.w) X.A X.env X.xe) (hc : X.calm = true) (hi : DI X tg iter it) (hg : DG X tg ws g) (hb : DSs X body b)
    (hs : ∀ x, foldedSetIterable iter X.env x = pure x := by intro _; rfl) : DS X (.For tg iter body [] pos) (sFor it g b) := ps_weak (ps_for hp hc hi hg hb hs) fun D σ H h => forD h

/-! ### while -/
def whileN (c : TV) (b : SVt) : Nat → SVt
  | 0, _ => none
  | n + 1, ρ => match c ρ with
    | some (true, ρ1) => match b ρ1 with
      | some (.nx ρ2) => whileN c b n ρ2
      | some (.ct ρ2) => whileN c b n ρ2
      | some (.bk ρ2) => some (.nx ρ2)
      | some (.rt d ρ2) => some (.rt d ρ2)
      | none => none
    | some (false, ρ1) => some (.nx ρ1)
    | none => none
def sWhile (fuel : Env' → Nat) (c : TV) (b : SVt) : SVt := fun ρ => whileN c b (fuel ρ) ρ
theorem ds_while {c : Expr} {body : List Stmt} {mc : TV} {b : SVt} {pos : Pos} (fuel : Env' → Nat) (hp : PassesOwn (model X.prog X.w) X.A X.env X.xe) (hc : DT X c mc) (hb : DSs X body b) : DS X (.While c body [] pos) (sWhile fuel mc b) := ps_weak (ps_while hp hc hb) fun D σ H ⟨F, ρ, r, R, em, k⟩ => by
  refine ⟨fun m σ2 H2 => ∃ ρ2, Rel X.K F ρ2 σ2 H2 ∧ whileN mc b m ρ2 = some r ∧ RPost X.K F ρ2 σ2 H2 D r, ⟨_, ρ, R, em, k⟩, ?_⟩
  rintro m σ2 H2 ⟨ρ2, R2, e2, k2⟩
  cases m with
  | zero => cases e2
  | succ n =>
    simp only [whileN] at e2
    split at e2
    · rename_i ρ3 ec
      refine ⟨F, ρ2, true, ρ3, R2, ec, fun H3 s3 => iteT ⟨fun σ4 H4 => ∃ ρ4, Rel X.K F ρ4 σ4 H4 ∧ whileN mc b n ρ4 = some r ∧ RPost X.K F ρ4 σ4 H4 D r, fun σ4 H4 q => ⟨n, Nat.lt_succ_self n, q⟩, ?_⟩⟩
      split at e2
      · rename_i ρ5 eb
        exact ⟨F, ρ3, _, s3.rel, eb, fun σ5 H5 s5 => ⟨ρ5, s5.rel, e2, k2.step (s3.trans s5)⟩⟩
      · rename_i ρ5 eb
        exact ⟨F, ρ3, _, s3.rel, eb, fun σ5 H5 s5 => ⟨ρ5, s5.rel, e2, k2.step (s3.trans s5)⟩⟩
      · rename_i ρ5 eb
        cases e2
        exact ⟨F, ρ3, _, s3.rel, eb, fun σ5 H5 s5 => k2 σ5 H5 (s3.trans s5)⟩
      · rename_i d' ρ5 eb
        cases e2
        exact ⟨F, ρ3, _, s3.rel, eb, fun σ5 H5 v s5 rv => k2 σ5 H5 v (s3.trans s5) rv⟩
      · cases e2
    · rename_i ρ3 ec
      cases e2
      exact ⟨F, ρ2, false, ρ3, R2, ec, fun H3 s3 => iteF (k2 σ2 H3 s3)⟩
    · cases e2

/-! ### comprehensions -/
def wipeE (ρ : Env') : List Nat → Env'
  | [] => ρ
  | v :: vs => (wipeE ρ vs).set v none
def clearE (ρ : Env') (vs : List Nat) : Bool := vs.all fun v => match ρ[v]? with
  | some (some _) => false
  | _ => true
theorem wipeE_len (ρ : Env') : ∀ vs, (wipeE ρ vs).length = ρ.length
  | [] => rfl
  | v :: vs => by unfold wipeE; rw [List.length_set, wipeE_len ρ vs]
theorem wipeE_some {ρ : Env'} {i : Nat} {x : SV} : ∀ {vs : List Nat}, (wipeE ρ vs)[i]? = some (some x) → ρ[i]? = some (some x) ∧ i ∉ vs
  | [], h => ⟨h, by simp⟩
  | v :: vs, h => by
    unfold wipeE at h
    by_cases hi : v = i
    · subst hi
      by_cases hv : v < (wipeE ρ vs).length
      · rw [List.getElem?_set_self hv] at h; cases h
      · rw [List.getElem?_eq_none (by simpa using hv)] at h; cases h
    · rw [List.getElem?_set_ne hi] at h
      obtain ⟨h1, h2⟩ := wipeE_some h
      exact ⟨h1, by simp only [List.mem_cons, not_or]; exact ⟨fun e => hi e.symm, h2⟩⟩
theorem wipeE_out {ρ : Env'} {i : Nat} : ∀ {vs : List Nat}, i ∉ vs → (wipeE ρ vs)[i]? = ρ[i]?
  | [], _ => rfl
  | v :: vs, h => by
    have h1 : v ≠ i := fun e => h (by rw [e]; exact List.mem_cons_self)
    have h2 : i ∉ vs := fun m => h (List.mem_cons_of_mem _ m)
    unfold wipeE
    rw [List.getElem?_set_ne h1]
    exact wipeE_out h2
/-- the slots that are told may be forgotten or turned: Rel looks at those that hold something alone -/
theorem Rel.wipeE {F : Fr0} {ρ : Env'} {σ σ' : St} {H : Hp} {vs : List Nat} (R : Rel K F ρ σ H) (hl : σ'.length = σ.length) (hσ : ∀ i, i ∉ vs → σ'[i]? = σ[i]?) : Rel K F (wipeE ρ vs) σ' H ∧ Vle (vis F ρ σ H) (vis F (DL.wipeE ρ vs) σ' H) := by
  have own : ∀ b, OwnAt (DL.wipeE ρ vs) σ' b → OwnAt ρ σ b := fun b => by
    rintro ⟨j, c, e, h1, h2⟩
    obtain ⟨g1, g2⟩ := wipeE_some h1
    rw [hσ j g2] at h2
    exact ⟨j, c, e, g1, h2⟩
  have m : Vle (vis F ρ σ H) (vis F (DL.wipeE ρ vs) σ' H) := Vle.sub fun b u e => by
    obtain ⟨h1, h2⟩ := hid_some e
    rw [vis_out fun z => h2 (z.elim .inl fun z => .inr (own b z))]
    exact h1
  refine ⟨⟨by rw [wipeE_len, hl]; exact R.len, fun j e h1 => ?_, fun j c e h1 => ?_, fun j k b c c' e f h1 h2 h7 h8 => ?_, R.alo⟩, m⟩
  · obtain ⟨g1, g2⟩ := wipeE_some h1
    obtain ⟨v, q1, q2⟩ := R.val j e g1
    exact ⟨v, by rw [hσ j g2]; exact q1, Rep.le m q2⟩
  · obtain ⟨g1, g2⟩ := wipeE_some h1
    obtain ⟨a, o, q1, q2, q3, q4⟩ := R.own j c e g1
    exact ⟨a, o, by rw [hσ j g2]; exact q1, q2, HRep.le m q3, q4⟩
  · obtain ⟨g1, g2⟩ := wipeE_some h1
    obtain ⟨g3, g4⟩ := wipeE_some h2
    rw [hσ j g2] at h7
    rw [hσ k g4] at h8
    exact R.inj j k b c c' e f g1 g3 h7 h8
theorem clear_none {ρ : Env'} {vs : List Nat} (h : clearE ρ vs = true) {i : Nat} {x : SV} (e : ρ[i]? = some (some x)) : i ∉ vs := fun m => by
  have q := List.all_eq_true.mp h i m
  rw [e] at q
  cases q
/-- slots that hold nothing may turn -/
theorem Rel.clear {F : Fr0} {ρ : Env'} {σ σ' : St} {H : Hp} {vs : List Nat} (R : Rel K F ρ σ H) (c : clearE ρ vs = true) (hl : σ'.length = σ.length) (hσ : ∀ i, i ∉ vs → σ'[i]? = σ[i]?) : Stp K F ρ ρ σ σ' H H := by
  have own : ∀ b, OwnAt ρ σ' b → OwnAt ρ σ b := fun b => by
    rintro ⟨j, c', e, h1, h2⟩
    rw [hσ j (clear_none c h1)] at h2
    exact ⟨j, c', e, h1, h2⟩
  have m : Vle (vis F ρ σ H) (vis F ρ σ' H) := Vle.sub fun b u e => by
    obtain ⟨h1, h2⟩ := hid_some e
    rw [vis_out fun z => h2 (z.elim .inl fun z => .inr (own b z))]
    exact h1
  refine ⟨⟨by rw [hl]; exact R.len, fun j e h1 => ?_, fun j c' e h1 => ?_, fun j k b c1 c2 e f h1 h2 h7 h8 => ?_, R.alo⟩, .refl _ _, m, fun j e h1 => ⟨⟨e, h1⟩, hσ j (clear_none c h1)⟩⟩
  · obtain ⟨v, q1, q2⟩ := R.val j e h1
    exact ⟨v, by rw [hσ j (clear_none c h1)]; exact q1, Rep.le m q2⟩
  · obtain ⟨a, o, q1, q2, q3, q4⟩ := R.own j c' e h1
    exact ⟨a, o, by rw [hσ j (clear_none c h1)]; exact q1, q2, HRep.le m q3, q4⟩
  · rw [hσ j (clear_none c h1)] at h7
    rw [hσ k (clear_none c h2)] at h8
    exact R.inj j k b c1 c2 e f h1 h2 h7 h8
theorem clear_wipe (ρ : Env') (vs : List Nat) : clearE (wipeE ρ vs) vs = true := List.all_eq_true.mpr fun i hi => by
  split
  · rename_i x e
    exact absurd hi (wipeE_some e).2
  · rfl
/-- behind a turn the def's own worths stand in the told slots again -/
def restE (ρ0 ρ : Env') : List Nat → Env'
  | [] => ρ
  | v :: vs => (restE ρ0 ρ vs).set v ((ρ0[v]?).getD none)
def freeE (ρ : Env') (vs : List Nat) : Bool := vs.all fun v => match ρ[v]? with
  | some (some (.o _ _)) => false
  | _ => true
theorem restE_len (ρ0 ρ : Env') : ∀ vs, (restE ρ0 ρ vs).length = ρ.length
  | [] => rfl
  | v :: vs => by unfold restE; rw [List.length_set, restE_len ρ0 ρ vs]
theorem restE_some {ρ0 ρ : Env'} {i : Nat} {x : SV} : ∀ {vs : List Nat}, (restE ρ0 ρ vs)[i]? = some (some x) → (i ∉ vs ∧ ρ[i]? = some (some x)) ∨ (i ∈ vs ∧ ρ0[i]? = some (some x))
  | [], h => .inl ⟨by simp, h⟩
  | v :: vs, h => by
    unfold restE at h
    by_cases hi : v = i
    · subst hi
      by_cases hv : v < (restE ρ0 ρ vs).length
      · rw [List.getElem?_set_self hv] at h
        right
        refine ⟨List.mem_cons_self, ?_⟩
        cases e : ρ0[v]? with
        | none => rw [e] at h; cases h
        | some y => rw [e] at h; exact h
      · rw [List.getElem?_eq_none (by simpa using hv)] at h; cases h
    · rw [List.getElem?_set_ne hi] at h
      rcases restE_some h with ⟨h1, h2⟩ | ⟨h1, h2⟩
      · exact .inl ⟨by simp only [List.mem_cons, not_or]; exact ⟨fun e => hi e.symm, h1⟩, h2⟩
      · exact .inr ⟨List.mem_cons_of_mem _ h1, h2⟩
theorem restE_out {ρ0 ρ : Env'} {i : Nat} : ∀ {vs : List Nat}, i ∉ vs → (restE ρ0 ρ vs)[i]? = ρ[i]?
  | [], _ => rfl
  | v :: vs, h => by
    have h1 : v ≠ i := fun e => h (by rw [e]; exact List.mem_cons_self)
    have h2 : i ∉ vs := fun m => h (List.mem_cons_of_mem _ m)
    unfold restE
    rw [List.getElem?_set_ne h1]
    exact restE_out h2
theorem free_not {ρ : Env'} {vs : List Nat} (h : freeE ρ vs = true) {i : Nat} {b : Bool} {d : D} (e : ρ[i]? = some (some (.o b d))) : i ∉ vs := fun m => by
  have q := List.all_eq_true.mp h i m
  rw [e] at q
  cases q
theorem free_rest {ρ0 : Env'} (ρ : Env') {vs : List Nat} (h : freeE ρ0 vs = true) : freeE (restE ρ0 ρ vs) vs = true := List.all_eq_true.mpr fun i hi => by
  split
  · rename_i b d e
    rcases restE_some e with ⟨h1, _⟩ | ⟨_, h2⟩
    · exact absurd hi h1
    · exact absurd hi (free_not h h2)
  · rfl
theorem Rel.restE {F : Fr0} {ρ0 ρ : Env'} {σ σ' : St} {H : Hp} {vs : List Nat} {G0 : Hp} (R : Rel K F ρ σ' H) (h0 : ∀ (i : Nat) (d : D), ρ0[i]? = some (some (.v d)) → ∃ v, σ[i]? = some (some v) ∧ Rep K G0 v d) (m0 : Vle G0 (vis F ρ σ' H)) (fr : freeE ρ0 vs = true)
    (hl : σ.length = σ'.length) (hσ : ∀ i, i ∉ vs → σ[i]? = σ'[i]?) : Rel K F (restE ρ0 ρ vs) σ H ∧ Vle (vis F ρ σ' H) (vis F (DL.restE ρ0 ρ vs) σ H) := by
  have own : ∀ b, OwnAt (DL.restE ρ0 ρ vs) σ b → OwnAt ρ σ' b := fun b => by
    rintro ⟨j, c, e, h1, h2⟩
    rcases restE_some h1 with ⟨g1, g2⟩ | ⟨g1, g2⟩
    · rw [hσ j g1] at h2
      exact ⟨j, c, e, g2, h2⟩
    · exact absurd g1 (free_not fr g2)
  have m : Vle (vis F ρ σ' H) (vis F (DL.restE ρ0 ρ vs) σ H) := Vle.sub fun b u e => by
    obtain ⟨h1, h2⟩ := hid_some e
    rw [vis_out fun z => h2 (z.elim .inl fun z => .inr (own b z))]
    exact h1
  refine ⟨⟨by rw [restE_len, hl]; exact R.len, fun j e h1 => ?_, fun j c e h1 => ?_, fun j k b c c' e f h1 h2 h7 h8 => ?_, R.alo⟩, m⟩
  · rcases restE_some h1 with ⟨g1, g2⟩ | ⟨g1, g2⟩
    · obtain ⟨v, q1, q2⟩ := R.val j e g2
      exact ⟨v, by rw [hσ j g1]; exact q1, Rep.le m q2⟩
    · obtain ⟨v, q1, q2⟩ := h0 j e g2
      exact ⟨v, q1, Rep.le (m0.trans m) q2⟩
  · rcases restE_some h1 with ⟨g1, g2⟩ | ⟨g1, g2⟩
    · obtain ⟨a, o, q1, q2, q3, q4⟩ := R.own j c e g2
      exact ⟨a, o, by rw [hσ j g1]; exact q1, q2, HRep.le m q3, q4⟩
    · exact absurd g1 (free_not fr g2)
  · rcases restE_some h1 with ⟨g1, g2⟩ | ⟨g1, g2⟩
    · rcases restE_some h2 with ⟨g3, g4⟩ | ⟨g3, g4⟩
      · rw [hσ j g1] at h7
        rw [hσ k g3] at h8
        exact R.inj j k b c c' e f g2 g4 h7 h8
      · exact absurd g3 (free_not fr g4)
    · exact absurd g1 (free_not fr g2)
def lcL (g : GV) (t : TV) (e : EV) (vs : List Nat) : List D → Env' → Option (List D × Env')
  | [], ρ => some ([], ρ)
  | d :: ds, ρ => ob (g d (wipeE ρ vs)) fun ρ1 => ob (t ρ1) fun p => match p.1 with
    | true => ob (e p.2) fun q => ob (toV q.2 q.1) fun y => ob (lcL g t e vs ds (restE ρ y.2 vs)) fun z => some (y.1 :: z.1, z.2)
    | false => lcL g t e vs ds (restE ρ p.2 vs)
def mLc (it : LI) (g : GV) (t : TV) (e : EV) (vs : List Nat) : FV := fun ρ => ob (it ρ) fun p => grd (freeE p.2 vs && lineOk p.1.length) (ob (lcL g t e vs p.1 p.2) fun z => some (.lst z.1, z.2))
def DPs (X : Cx) (ifs : List Expr) (t : TV) : Prop := PTs X ifs (tDT X.K t)
def tYes' : TV := fun ρ => some (true, ρ)
theorem dps_nil : DPs X [] tYes' := ⟨fun pins s σ H Q I ⟨F, ρ, x, ρ', R, em, k⟩ => pts_nil.run pins s σ H Q I (by cases em; exact k H (.refl R))⟩
theorem dps_one {c : Expr} {t : TV} (h : DT X c t) : DPs X [c] t := pts_one h
theorem wipe_wipe {σ : St} : ∀ (vs : List Nat), wipe (wipe σ vs) vs = wipe σ vs := fun vs => by
  have q : ∀ ws : List Nat, (∀ i ∈ ws, i ∈ vs) → wipe (wipe σ ws) vs = wipe σ vs := by
    intro ws
    induction ws with
    | nil => intro _; rfl
    | cons w ws ih =>
      intro h
      show wipe ((wipe σ ws).set w none) vs = _
      rw [wipe_set (h w List.mem_cons_self)]
      exact ih fun i hi => h i (List.mem_cons_of_mem _ hi)
  exact q vs fun _ h => h
theorem Rel.poke {F : Fr0} {ρ : Env'} {σ : St} {H : Hp} {p : Addr} {o : HO} (R : Rel K (fp F p) ρ σ H) : Rel K (fp F p) ρ σ (upd H p o) ∧ vis (fp F p) ρ σ (upd H p o) = vis (fp F p) ρ σ H := by
  have ev : vis (fp F p) ρ σ (upd H p o) = vis (fp F p) ρ σ H := by
    funext c
    by_cases q : fo (fp F p) ρ σ c
    · rw [vis_in q, vis_in q]
    · rw [vis_out q, vis_out q, upd_ne fun z => q (.inl (.inl z))]
  refine ⟨R.move (by rw [ev]; exact (Vle.refl _).toVleW) (fun a h => upd_ne fun z => ?_) (fun _ _ h => h) fun a h => ?_, ev⟩
  · obtain ⟨i, b, d, h1, h2⟩ := h
    obtain ⟨a', o', h3, _, _, h6⟩ := R.own i b d h1
    rw [h2] at h3; cases h3
    exact h6 (.inl z)
  · by_cases q : a = p
    · rw [q, upd_same]; intro z; cases z
    · rw [upd_ne q]; exact R.alo a h
theorem lcD {it : LI} {g : GV} {t : TV} {e : EV} {vs : List Nat} {σ : St} {H : Hp} {Q : VK} (h : tDF K (mLc it g t e vs) σ H Q) : tLc (tDI K it) (tDG K vs g) (tDT K t) (tD K e) vs σ H Q := by
  obtain ⟨F, ρ, d, ρ', R, em, k⟩ := h
  obtain ⟨⟨items, ρ1⟩, e1, em⟩ := ob_inv em
  obtain ⟨gd, em⟩ := grd_inv em
  obtain ⟨⟨ys, ρz⟩, e2, em⟩ := ob_inv em
  cases em
  rw [Bool.and_eq_true] at gd
  have hline : items.length ≤ sizeLine := lineOk_of gd.2
  refine ⟨F, ρ, items, ρ1, R, e1, fun H1 J s1 hJ p hp => ?_⟩
  obtain ⟨R1, kp1, vl1⟩ := s1.rel.allocF hp (.lst [])
  have I := hJ (fp F p) _ R1 vl1
  refine ⟨fun i m H2 => m = items.length - i ∧ i ≤ items.length ∧ ∃ ρ2 acc yd rest, Rel K (fp F p) ρ2 σ H2 ∧ freeE ρ2 vs = true ∧ Keep F H1 H2 ∧ Vle (vis (fp F p) ρ1 σ (upd H1 p (.lst []))) (vis (fp F p) ρ2 σ H2) ∧ Pins ρ1 ρ2 σ σ ∧
      H2 p = some (.lst acc) ∧ acc.length ≤ i ∧ RepL K (vis (fp F p) ρ2 σ H2) acc yd ∧ lcL g t e vs (items.drop i) ρ2 = some (rest, ρz) ∧ yd ++ rest = ys,
    ⟨items.length, by simp, Nat.zero_le _, ρ1, [], [], ys, R1, gd.1, kp1, .refl _, .refl _ _, upd_same, Nat.le_refl _, .nil, by rw [List.drop_zero]; exact e2, rfl⟩, ?_⟩
  rintro i m H2 ⟨rfl, hi, ρ2, acc, yd, rest, R2, c2, kp2, vl2, pn2, ep, la, ra, el, ey⟩
  by_cases hlt : i < items.length
  · have hd : items.drop i = items[i] :: items.drop (i + 1) := List.drop_eq_getElem_cons hlt
    rw [hd] at el
    simp only [lcL] at el
    obtain ⟨ρ3, eg, el⟩ := ob_inv el
    obtain ⟨⟨b, ρ4⟩, et, el⟩ := ob_inv el
    refine .inr ⟨I.go i ρ2 σ H2 R2 vl2 hlt, fun H3 => i + 1 ≤ items.length ∧ ∃ ρ2 acc yd rest, Rel K (fp F p) ρ2 σ H3 ∧ freeE ρ2 vs = true ∧ Keep F H1 H3 ∧ Vle (vis (fp F p) ρ1 σ (upd H1 p (.lst []))) (vis (fp F p) ρ2 σ H3) ∧ Pins ρ1 ρ2 σ σ ∧
      H3 p = some (.lst acc) ∧ acc.length ≤ i + 1 ∧ RepL K (vis (fp F p) ρ2 σ H3) acc yd ∧ lcL g t e vs (items.drop (i + 1)) ρ2 = some (rest, ρz) ∧ yd ++ rest = ys,
      fun H3 q => ⟨items.length - (i + 1), by omega, rfl, q⟩, fun x H3 y => ?_⟩
    obtain ⟨s3, d, hd', rd⟩ := I.yld i ρ2 σ H2 x H3 R2 vl2 hlt y
    rw [List.getElem?_eq_getElem hlt] at hd'
    cases hd'
    obtain ⟨Rw, vw⟩ := s3.rel.wipeE (σ' := wipe σ vs) (vs := vs) (wipe_length _ _) fun j hj => wipe_out hj
    refine ⟨fp F p, wipeE ρ2 vs, _, ρ3, Rw, Rep.le vw rd, eg, fun σ4 H4 s4 w4 => ?_⟩
    rw [wipe_wipe] at w4
    have hσ : ∀ j, j ∉ vs → σ[j]? = σ4[j]? := fun j hj => by rw [← wipe_out hj, ← w4, wipe_out hj]
    have hl : σ.length = σ4.length := by rw [← wipe_length σ vs, ← w4, wipe_length]
    -- back at the def's own slots
    have back : ∀ {ρ6 : Env'} {H6 : Hp}, Stp K (fp F p) (wipeE ρ2 vs) ρ6 (wipe σ vs) σ4 H3 H6 → Rel K (fp F p) (restE ρ2 ρ6 vs) σ H6 ∧ Vle (vis (fp F p) ρ2 σ H2) (vis (fp F p) (restE ρ2 ρ6 vs) σ H6) ∧ Vle (vis (fp F p) ρ6 σ4 H6) (vis (fp F p) (restE ρ2 ρ6 vs) σ H6) ∧ Pins ρ2 (restE ρ2 ρ6 vs) σ σ ∧ Keep (fp F p) H2 H6 := fun {ρ6 H6} s6 => by
      obtain ⟨a, b⟩ := s6.rel.restE (ρ0 := ρ2) (σ := σ) (vs := vs) R2.val (s3.vle.trans (vw.trans s6.vle)) c2 hl hσ
      refine ⟨a, (s3.vle.trans (vw.trans s6.vle)).trans b, b, fun j e' h' => ?_, s3.keep.trans s6.keep⟩
      have hj := free_not c2 h'
      obtain ⟨⟨d', q1⟩, q2⟩ := s6.pin j e' (by rw [wipeE_out hj]; exact h')
      exact ⟨⟨d', by rw [restE_out hj]; exact q1⟩, rfl⟩
    have s24 := s4
    refine ⟨w4, fp F p, ρ3, b, ρ4, s4.rel, et, fun H5 s5 => ?_⟩
    have s25 := s24.trans s5
    cases b with
    | false =>
      refine iteF ?_
      obtain ⟨a1, a2, a3, a4, a5⟩ := back s25
      refine ⟨hlt, _, acc, yd, rest, a1, free_rest _ c2, kp2.trans fun c hc => a5 c (.inr hc), vl2.trans a2, pn2.trans a4, ?_, Nat.le_succ_of_le la, RepL.le a2 ra, el, ey⟩
      rw [a5 p (.inl rfl)]; exact ep
    | true =>
      refine iteT ?_
      obtain ⟨⟨xa, ρ5⟩, ee, el⟩ := ob_inv el
      obtain ⟨⟨yv, ρ6⟩, ev, el⟩ := ob_inv el
      obtain ⟨⟨zs, ρ7⟩, er, el⟩ := ob_inv el
      cases el
      refine ⟨fp F p, ρ4, xa, ρ5, s5.rel, ee, fun H6 v s6 rv => ?_⟩
      obtain ⟨s7, r7⟩ := s6.rel.toV rv ev
      have s27 := (s25.trans s6).trans s7
      obtain ⟨a1, a2, a3, a4, a5⟩ := back s27
      refine ⟨acc, by rw [a5 p (.inl rfl)]; exact ep, by omega, ?_⟩
      obtain ⟨b1, b2⟩ := a1.poke (o := .lst (acc ++ [v]))
      refine ⟨hlt, _, acc ++ [v], yd ++ [yv], zs, b1, free_rest _ c2, ?_, by rw [b2]; exact vl2.trans a2, pn2.trans a4, upd_same, by rw [List.length_append]; show acc.length + 1 ≤ i + 1; omega, ?_, er, by rw [List.append_assoc]; exact ey⟩
      · intro c hc
        have hc' : c ≠ p := fun z => s1.rel.alo c hc (by rw [z]; exact hp)
        rw [upd_ne hc', a5 c (.inr hc)]
        exact kp2 c hc
      · rw [b2]
        exact (RepL.le a2 ra).append (.cons (Rep.le a3 r7) .nil)
  · have ei : i = items.length := by omega
    subst ei
    rw [List.drop_length] at el
    cases el
    rw [List.append_nil] at ey
    subst ey
    refine .inl ⟨I.stop _ ρz σ H2 R2 vl2 (Nat.le_refl _), k H2 p (.lst acc) R2 ep ra (fun z => s1.rel.alo p z hp) (s1.keep.trans kp2) (s1.vle.trans (vl1.trans vl2)) (s1.pin.trans pn2)⟩
theorem df_lc {elt tg iter : Expr} {ifs : List Expr} {scope : Scope} {own : List (Str × Nat)} {pos : Pos} {it : LI} {g : GV} {t : TV} {e : EV} (hc : X.calm = true) (hN : X.N.Nodup) (hi : DI X tg iter it) (ok : BlkOk X.N X.env.scope scope own)
    (hg : ∀ (s : Shared) (H : Hp) (C : Addr) (cl : List (Str × Addr)) (fp : List Addr), DG (X.blk s H scope (compEnvC scope cl C X.env) fp) tg (own.map (·.2)) g) (ht : ∀ (s : Shared) (H : Hp) (C : Addr) (cl : List (Str × Addr)) (fp : List Addr), DPs (X.blk s H scope (compEnvC scope cl C X.env) fp) ifs t)
    (he : ∀ (s : Shared) (H : Hp) (C : Addr) (cl : List (Str × Addr)) (fp : List Addr), DE (X.blk s H scope (compEnvC scope cl C X.env) fp) elt e) (hs : ∀ x, foldedSetIterable iter X.env x = pure x := by intro _; rfl) :
    DF X (.ListComp elt [⟨tg, iter, ifs, 0⟩] scope pos) (mLc it g t e (own.map (·.2))) := pe_weak (@pe_lc X elt tg iter ifs scope own pos (tDI X.K it) (tDG X.K (own.map fun x : Str × Nat => x.2) g) (tDT X.K t) (tD X.K e) hc hN hi ok hg ht he hs) fun σ H Q h => lcD h
end
end DL

set_option Elab.async false
set_option linter.all false
set_option maxRecDepth 100000
namespace DL
open PySem PySem.Spec L2
set_option autoImplicit false

/-! ### defs -/
def env0 (n : Nat) (ds : List D) : Env' := ds.map (fun d => some (.v d)) ++ List.replicate (n - ds.length) none
def denOf (n : Nat) (m : SVt) : List D → Option D := fun ds => match m (env0 n ds) with
  | some (.rt d _) => some d
  | some (.nx _) => some .non
  | _ => none
def envIO (n : Nat) (d0 : D) (ds : List D) : Env' := some (.o true d0) :: (ds.map (fun d => some (.v d)) ++ List.replicate (n - (ds.length + 1)) none)
def outIO (r : D) (ρ : Env') : Option (D × D) := match ρ[(0 : Nat)]? with
  | some (some (SV.o true d1)) => some (r, d1)
  | _ => none
def denIO (n : Nat) (m : SVt) : D → List D → Option (D × D) := fun d0 ds => match m (envIO n d0 ds) with
  | some (.rt r ρ) => outIO r ρ
  | some (.nx ρ) => outIO .non ρ
  | _ => none
section
variable {K : PySem.W.Frag} {F : Fr0} {H : Hp}
theorem env0_get {n : Nat} {ds : List D} {i : Nat} {x : SV} (h : (env0 n ds)[i]? = some (some x)) : ∃ d, ds[i]? = some d ∧ x = .v d := by
  unfold env0 at h
  by_cases hi : i < ds.length
  · rw [List.getElem?_append_left (by rw [List.length_map]; exact hi), List.getElem?_map, List.getElem?_eq_getElem hi] at h
    cases h
    exact ⟨_, List.getElem?_eq_getElem hi, rfl⟩
  · rw [List.getElem?_append_right (by rw [List.length_map]; omega), List.getElem?_replicate] at h
    split at h <;> cases h
theorem rel0 {N : List Str} {vs : List V} {ds : List D} (al : ∀ a, F a → H a ≠ none) (r : RepL K (hid F H) vs ds) : Rel K F (env0 N.length ds) (L2.start N vs) H ∧ vis F (env0 N.length ds) (L2.start N vs) H = hid F H := by
  have nown : ∀ a, ¬ OwnAt (env0 N.length ds) (L2.start N vs) a := fun a ⟨i, b, d, h1, _⟩ => by
    obtain ⟨d', _, e⟩ := env0_get h1
    cases e
  have ev : vis F (env0 N.length ds) (L2.start N vs) H = hid F H := by
    funext c
    by_cases q : F c
    · rw [hid_in q, vis_in (.inl q)]
    · rw [hid_out q, vis_out fun z => z.elim q (nown c)]
  have hl := r.length
  refine ⟨⟨?_, fun i d h => ?_, fun i b d h => ?_, fun i j a b c d e h => ?_, al⟩, ev⟩
  · unfold L2.start env0
    simp only [List.length_append, List.length_map, List.length_replicate, hl]
  · obtain ⟨d', h1, e⟩ := env0_get h
    cases e
    obtain ⟨v, g1, g2⟩ := r.get h1
    have hi : i < vs.length := (List.getElem?_eq_some_iff.mp g1).1
    refine ⟨v, ?_, by rw [ev]; exact g2⟩
    unfold L2.start
    rw [List.getElem?_append_left (by rw [List.length_map]; exact hi), List.getElem?_map, g1]
    rfl
  · obtain ⟨d', _, e⟩ := env0_get h
    cases e
  · obtain ⟨d', _, e⟩ := env0_get h
    cases e
variable {P : Program} {w : World} {mg : Str → Option Value} {base : Heap}
/-- THE RULE for a def that hands back data -/
theorem fnD {x qual : Str} {st : Stmt} {f : Addr} {fd : FuncData} {N ps : List Str} {k : Nat} {m : SVt} (Fn : Fun K x qual st f fd) (S : FnScope N ps (defScope st)) (n : Nat) (hn : ps.length = n)
    (hb : ∀ (cdv : Value) (A : Around) (outer : List Env) (s : Shared) (H : Hp) (E : XK), Room k (A.deeper (PyProof.Rows.envOfC qual (defScope st) s.heap.objs.size f cdv)) →
      DSs (cxOf CX0 P w K mg base N qual (defScope st) f cdv A outer s H E).nox (defBody st) m) : FnOk P w K mg base CX0 (k + 1) f fd ps (spD K n (denOf N.length m)) := by
  refine Fn.ok S (fun vs H Q E h => h.1.trans hn.symm) (fun cdv A outer s H vs Q E hr h => ?_)
  obtain ⟨hv, F, ds, d, al, r, em, q⟩ := h
  refine ⟨_, hb cdv A outer s H E hr, ?_⟩
  obtain ⟨R, ev⟩ := rel0 (N := N) al r
  have fin : ∀ {ρ' : Env'} {σ' : L2.St} {H' : Hp} {v : V} {d' : D}, Stp K F (env0 N.length ds) ρ' (L2.start N vs) σ' H H' → Rep K (vis F ρ' σ' H') v d' → d' = d → Q v H' := fun {ρ' σ' H' v d'} s rv e => by
    have m2 : Vle (vis F ρ' σ' H') (hid F H') := Vle.sub fun b u e => by
      obtain ⟨h1, h2⟩ := hid_some e
      rw [hid_out fun z => h2 (.inl z)]
      exact h1
    have vl := s.vle
    rw [ev] at vl
    exact q H' v s.keep (vl.trans m2) (Rep.le m2 (e ▸ rv))
  unfold denOf at em
  split at em
  · rename_i d' ρ' e1
    cases em
    exact ⟨F, _, _, R, e1, fun σ' H' v s rv => fin s rv rfl⟩
  · rename_i ρ' e1
    cases em
    exact ⟨F, _, _, R, e1, fun σ' H' s => fin s .non rfl⟩
  · cases em
/-- .. for a def that changes its first argument's object -/
theorem fnIO {x qual : Str} {st : Stmt} {f : Addr} {fd : FuncData} {N ps : List Str} {k : Nat} {m : SVt} (Fn : Fun K x qual st f fd) (S : FnScope N ps (defScope st)) (n : Nat) (hn : ps.length = n + 1)
    (hb : ∀ (cdv : Value) (A : Around) (outer : List Env) (s : Shared) (H : Hp) (E : XK), Room k (A.deeper (PyProof.Rows.envOfC qual (defScope st) s.heap.objs.size f cdv)) →
      DSs (cxOf CX0 P w K mg base N qual (defScope st) f cdv A outer s H E).nox (defBody st) m) : FnOk P w K mg base CX0 (k + 1) f fd ps (spIO K n (denIO N.length m)) := by
  refine Fn.ok S (fun vs H Q E h => h.1.trans hn.symm) (fun cdv A outer s H vs Q E hr h => ?_)
  obtain ⟨hv, F, a, vr, o, d0, ds, r, d1, rfl, al, nf, ea, ho, rr, em, q⟩ := h
  refine ⟨_, hb cdv A outer s H E hr, ?_⟩
  have hlr := rr.length
  have hget : ∀ {i : Nat} {x : SV}, (envIO N.length d0 ds)[i]? = some (some x) → (i = 0 ∧ x = .o true d0) ∨ ∃ j d, i = j + 1 ∧ ds[j]? = some d ∧ x = .v d := fun {i x} h => by
    cases i with
    | zero => cases h; exact .inl ⟨rfl, rfl⟩
    | succ j =>
      right
      have h' : (ds.map (fun d => some (SV.v d)) ++ List.replicate (N.length - (ds.length + 1)) none)[j]? = some (some x) := h
      by_cases hi : j < ds.length
      · rw [List.getElem?_append_left (by rw [List.length_map]; exact hi), List.getElem?_map, List.getElem?_eq_getElem hi] at h'
        cases h'
        exact ⟨j, _, rfl, List.getElem?_eq_getElem hi, rfl⟩
      · rw [List.getElem?_append_right (by rw [List.length_map]; omega), List.getElem?_replicate] at h'
        split at h' <;> cases h'
  have h0 : (L2.start N (.ref a :: vr))[0]? = some (some (.ref a)) := rfl
  have ow : ∀ c, OwnAt (envIO N.length d0 ds) (L2.start N (.ref a :: vr)) c ↔ c = a := fun c => by
    constructor
    · rintro ⟨i, b, d, h1, h2⟩
      rcases hget h1 with ⟨rfl, _⟩ | ⟨j, d', _, _, e⟩
      · rw [h0] at h2; cases h2; rfl
      · cases e
    · rintro rfl
      exact ⟨0, true, d0, rfl, h0⟩
  have ev : ∀ H : Hp, vis F (envIO N.length d0 ds) (L2.start N (.ref a :: vr)) H = hid (fp F a) H := fun H => by
    funext c
    by_cases q : fp F a c
    · rw [hid_in q, vis_in (q.elim (fun z => .inr ((ow c).mpr z)) .inl)]
    · rw [hid_out q, vis_out fun z => z.elim (fun z => q (.inr z)) fun z => q (.inl ((ow c).mp z))]
  have R : Rel K F (envIO N.length d0 ds) (L2.start N (.ref a :: vr)) H := by
    refine ⟨?_, fun i d h => ?_, fun i b d h => ?_, fun i j c b b' d e h1 h2 _ _ => ?_, al⟩
    · unfold L2.start envIO
      simp only [List.length_append, List.length_map, List.length_replicate, hlr, List.length_cons]
      omega
    · rcases hget h with ⟨_, e⟩ | ⟨j, d', rfl, h1, e⟩
      · cases e
      · cases e
        obtain ⟨v, g1, g2⟩ := rr.get h1
        have hi : j < vr.length := (List.getElem?_eq_some_iff.mp g1).1
        refine ⟨v, ?_, by rw [ev]; exact g2⟩
        show (vr.map some ++ List.replicate (N.length - (vr.length + 1)) none)[j]? = _
        rw [List.getElem?_append_left (by rw [List.length_map]; exact hi), List.getElem?_map, g1]
        rfl
    · rcases hget h with ⟨rfl, e⟩ | ⟨j, d', _, _, e⟩
      · cases e
        exact ⟨a, o, h0, ea, by rw [ev]; exact ho, nf⟩
      · cases e
    · rcases hget h1 with ⟨rfl, _⟩ | ⟨_, _, _, _, e⟩
      · rcases hget h2 with ⟨rfl, _⟩ | ⟨_, _, _, _, e⟩
        · rfl
        · cases e
      · cases e
  have fin : ∀ {ρ' : Env'} {σ' : L2.St} {H' : Hp} {v : V} {d' : D}, Stp K F (envIO N.length d0 ds) ρ' (L2.start N (.ref a :: vr)) σ' H H' → Rep K (vis F ρ' σ' H') v d' → outIO d' ρ' = some (r, d1) → Q v H' := fun {ρ' σ' H' v d'} s rv e => by
    unfold outIO at e
    split at e
    · rename_i d2 h2
      cases e
      obtain ⟨_, hσ⟩ := s.pin 0 d0 rfl
      rw [h0] at hσ
      obtain ⟨a', o', g1, g2, g3, g4⟩ := s.rel.own 0 true d1 h2
      rw [hσ] at g1; cases g1
      have m2 : Vle (vis F ρ' σ' H') (hid (fp F a) H') := Vle.sub fun b u e => by
        obtain ⟨q1, q2⟩ := hid_some e
        rw [hid_out fun z => q2 (z.elim (fun z => .inr ⟨0, true, d1, h2, by rw [z]; exact hσ⟩) .inl)]
        exact q1
      have vl := s.vle
      rw [ev] at vl
      exact q H' v o' s.keep (vl.trans m2) g2 (HRep.le m2 g3) (Rep.le m2 rv)
    · cases e
  unfold denIO at em
  split at em
  · rename_i d' ρ' e1
    exact ⟨F, _, _, R, e1, fun σ' H' v s rv => fin s rv em⟩
  · rename_i ρ' e1
    exact ⟨F, _, _, R, e1, fun σ' H' s => fin s .non em⟩
  · cases em
end
end DL

set_option Elab.async false
set_option linter.all false
set_option maxRecDepth 100000
namespace DL
open PySem PySem.Spec L2
set_option autoImplicit false

/-! ### items, lengths -/
def intsOf : List D → Option (List Int)
  | [] => some []
  | .int i :: r => match intsOf r with
    | some l => some (i :: l)
    | none => none
  | _ :: _ => none
def blsOf : List D → Option (List Bool)
  | [] => some []
  | .bl i :: r => match blsOf r with
    | some l => some (i :: l)
    | none => none
  | _ :: _ => none
section
variable {K : PySem.W.Frag} {G : Hp}
theorem RepL.ints_of : ∀ {ds : List D} {xs : List V} {ns : List Int}, RepL K G xs ds → intsOf ds = some ns → xs = ns.map V.int
  | [], _, _, r, e => by cases r; cases e; rfl
  | d :: ds, _, ns, r, e => by
    cases r with
    | cons r1 r2 =>
      cases d <;> simp only [intsOf] at e <;> try cases e
      rename_i i
      split at e
      · rename_i l el
        cases e
        cases r1
        rw [RepL.ints_of r2 el]
        rfl
      · cases e
theorem RepL.bls_of : ∀ {ds : List D} {xs : List V} {ns : List Bool}, RepL K G xs ds → blsOf ds = some ns → xs = ns.map V.bl
  | [], _, _, r, e => by cases r; cases e; rfl
  | d :: ds, _, ns, r, e => by
    cases r with
    | cons r1 r2 =>
      cases d <;> simp only [blsOf] at e <;> try cases e
      rename_i i
      split at e
      · rename_i l el
        cases e
        cases r1
        rw [RepL.bls_of r2 el]
        rfl
      · cases e
theorem RepL.atI {xs : List V} {ds : List D} {i : Int} {d : D} (r : RepL K G xs ds) (h : atI ds i = some d) : ∃ v, L2.atI xs i = some v ∧ Rep K G v d := by
  unfold L2.atI at h ⊢
  rw [r.length]
  cases e : ixN ds.length i with
  | none => rw [e] at h; cases h
  | some j =>
    rw [e] at h
    obtain ⟨v, h1, h2⟩ := r.get (show ds[j]? = some d from h)
    exact ⟨v, h1, h2⟩
end
def ixD : D → D → Option D
  | .lst l, .int i => atI l i
  | .tup l, .int i => atI l i
  | .scr l, .int i => atI l i
  | _, _ => none
section
variable {X : Cx} {K : PySem.W.Frag}
theorem od_ix : OpD K ixD (rIx K) := by
  intro F ρ σ H v u d e z Q R tv tu ef k
  unfold ixD at ef
  split at ef
  · obtain ⟨a, xs, rfl, h1, h2⟩ := tv.lst
    obtain ⟨v, g1, g2⟩ := h2.atI ef
    exact .inl ⟨a, xs, _, v, rfl, tu.int, .inl (.inl h1), g1, k H _ (.refl R) g2⟩
  · obtain ⟨a, xs, rfl, h1, h2⟩ := tv.tup
    obtain ⟨v, g1, g2⟩ := h2.atI ef
    exact .inr (.inl ⟨a, xs, _, v, rfl, tu.int, h1, g1, k H _ (.refl R) g2⟩)
  · obtain ⟨a, xs, rfl, h1, h2⟩ := tv.scr
    obtain ⟨v, g1, g2⟩ := h2.atI ef
    exact .inl ⟨a, xs, _, v, rfl, tu.int, h1, g1, k H _ (.refl R) g2⟩
  · cases ef
theorem de_ix {a b : Expr} {ma mb : EV} {pos : Pos} (ha : DE X a ma) (hb : DE X b mb) (hs : PlainIx b := by intro _ _; rfl) : DE X (.Subscript a b pos) (m2 ixD ma mb) := pe_weak (pe_ix ix_seq ha hb hs) fun _ _ _ h => op2 od_ix h

/-! ### built-ins by value -/
/-- one argument -/
def CallD (K : PySem.W.Frag) (f : List D → Option D) (r : List V → Hp → VK → Prop) : Prop := ∀ (F : Fr0) (ρ : Env') (σ : St) (H : Hp) (vs : List V) (ds : List D) (z : D) (Q : VK), Rel K F ρ σ H → TopL K H (vis F ρ σ H) vs ds → f ds = some z →
  (∀ H' w, Stp K F ρ ρ σ σ H H' → Rep K (vis F ρ σ H') w z → Q w H') → r vs H Q
where TopL (K : PySem.W.Frag) (H G : Hp) (vs : List V) (ds : List D) : Prop := List.length vs = List.length ds ∧ ∀ (i : Nat) (d : D), ds[i]? = some d → ∃ v, vs[i]? = some v ∧ Top K H G v d
abbrev TopL := CallD.TopL
def derefL (ρ : Env') : List A → Option (List D)
  | [] => some []
  | x :: xs => match deref ρ x, derefL ρ xs with
    | some d, some ds => some (d :: ds)
    | _, _ => none
theorem Rel.topL {F : Fr0} {ρ : Env'} {σ : St} {H : Hp} (R : Rel K F ρ σ H) : ∀ {xs : List A} {vs : List V} {ds : List D}, RepAL K (vis F ρ σ H) σ vs xs → derefL ρ xs = some ds → TopL K H (vis F ρ σ H) vs ds
  | [], _, _, r, e => by cases r; cases e; exact ⟨rfl, fun i d h => by cases h⟩
  | x :: xs, _, ds, r, e => by
    cases r with
    | cons r1 r2 =>
      simp only [derefL] at e
      split at e
      · rename_i d ds' e1 e2
        cases e
        obtain ⟨h1, h2⟩ := Rel.topL R r2 e2
        refine ⟨congrArg (· + 1) h1, fun i d' h => ?_⟩
        cases i with
        | zero => cases h; exact ⟨_, rfl, R.top r1 e1⟩
        | succ j => exact h2 j d' h
      · cases e
theorem topL1 {H G : Hp} {vs : List V} {d : D} (t : TopL K H G vs [d]) : ∃ v, vs = [v] ∧ Top K H G v d := by
  obtain ⟨h1, h2⟩ := t
  match vs, h1 with
  | [v], _ =>
    obtain ⟨v', e, q⟩ := h2 0 d rfl
    cases e
    exact ⟨v, rfl, q⟩
theorem topL2 {H G : Hp} {vs : List V} {d e : D} (t : TopL K H G vs [d, e]) : ∃ v u, vs = [v, u] ∧ Top K H G v d ∧ Top K H G u e := by
  obtain ⟨h1, h2⟩ := t
  match vs, h1 with
  | [v, u], _ =>
    obtain ⟨v', e1, q1⟩ := h2 0 d rfl
    obtain ⟨u', e2, q2⟩ := h2 1 e rfl
    cases e1; cases e2
    exact ⟨v, u, rfl, q1, q2⟩
def mB (f : List D → Option D) (ms : LV) : EV := bd ms fun xs ρ => ob (derefL ρ xs) fun ds => ob (f ds) fun z => some (.v z, ρ)
theorem cbD {f : List D → Option D} {r : List V → Hp → VK → Prop} (hf : CallD K f r) {ms : LV} {σ : St} {H : Hp} {Q : VK} (h : tD K (mB f ms) σ H Q) : tCB r (tDL K ms) σ H Q := by
  obtain ⟨F, ρ, x, ρ', R, em, k⟩ := h
  obtain ⟨xs, ρ1, e1, em⟩ := bd_inv em
  obtain ⟨ds, e2, em⟩ := ob_inv em
  obtain ⟨z, e3, em⟩ := ob_inv em
  cases em
  exact ⟨F, ρ, xs, _, R, e1, fun H1 vs s1 r1 => hf F _ σ H1 vs ds z Q s1.rel (s1.rel.topL r1 e2) e3 fun H' w s2 rw' => k H' w (s1.trans s2) rw'⟩
section
variable {r : List V → Hp → VK → Prop} {f : List D → Option D} {x : Str} {p pos : Pos} {e : Expr} {es : List Expr} {ms : LV} {id T : String}
theorem de_blt (hc : CallR X (.builtin id) r) (hf : CallD X.K f r) (hg : Gl X x) (hm : X.mg x = none) (hv : bootBuiltins x = some (.builtin id)) (ha : DA X (e :: es) ms) (hn : x ≠ "__name__" := by decide) (hdb : (x == ("__debug__" : Str)) = false := by decide)
    (he : starEach (e :: es) X.env = (false, eval e X.env) :: starEach es X.env := by rfl) (hpl : (backTo pos (starEach es X.env)).any (·.1) = false := by rfl) : DE X (.Call (.Name x p) (e :: es) [] pos) (mB f ms) :=
  pe_weak (pe_callB hc hg hm hv ha hn hdb he hpl) fun _ _ _ h => cbD hf h
theorem de_ty (hc : CallR X (.type T) r) (hf : CallD X.K f r) (hg : Gl X x) (hm : X.mg x = none) (hv : bootBuiltins x = some (.type T)) (ha : DA X (e :: es) ms) (hn : x ≠ "__name__" := by decide) (hdb : (x == ("__debug__" : Str)) = false := by decide)
    (he : starEach (e :: es) X.env = (false, eval e X.env) :: starEach es X.env := by rfl) (hpl : (backTo pos (starEach es X.env)).any (·.1) = false := by rfl) : DE X (.Call (.Name x p) (e :: es) [] pos) (mB f ms) :=
  pe_weak (pe_callTy hc hg hm hv ha hn hdb he hpl) fun _ _ _ h => cbD hf h
end
/-! fresh lists by a built-in -/
def CallF (K : PySem.W.Frag) (f : List D → Option D) (r : List V → Hp → VK → Prop) : Prop := ∀ (F : Fr0) (ρ : Env') (σ : St) (H : Hp) (vs : List V) (ds : List D) (z : D) (Q : VK), Rel K F ρ σ H → TopL K H (vis F ρ σ H) vs ds → f ds = some z →
  (∀ H1 p o, Stp K F ρ ρ σ σ H H1 → H1 p = none → HRep K (vis F ρ σ H1) o z → Q (.ref p) (upd H1 p o)) → r vs H Q
def mBF (f : List D → Option D) (ms : LV) : FV := bd ms fun xs ρ => ob (derefL ρ xs) fun ds => ob (f ds) fun z => some (z, ρ)
theorem cbF {f : List D → Option D} {r : List V → Hp → VK → Prop} (hf : CallF K f r) {ms : LV} {σ : St} {H : Hp} {Q : VK} (h : tDF K (mBF f ms) σ H Q) : tCB r (tDL K ms) σ H Q := by
  obtain ⟨F, ρ, x, ρ', R, em, k⟩ := h
  obtain ⟨xs, ρ1, e1, em⟩ := bd_inv em
  obtain ⟨ds, e2, em⟩ := ob_inv em
  obtain ⟨z, e3, em⟩ := ob_inv em
  cases em
  refine ⟨F, ρ, xs, _, R, e1, fun H1 vs s1 r1 => hf F _ σ H1 vs ds x Q s1.rel (s1.rel.topL r1 e2) e3 fun H2 p o s2 hp r2 => ?_⟩
  obtain ⟨a, b, c, d, e, f, g⟩ := (s1.trans s2).newF hp r2
  exact k _ p o a b c d e f g
section
variable {r : List V → Hp → VK → Prop} {f : List D → Option D} {x : Str} {p pos : Pos} {e : Expr} {es : List Expr} {ms : LV} {id T : String}
theorem df_blt (hc : CallR X (.builtin id) r) (hf : CallF X.K f r) (hg : Gl X x) (hm : X.mg x = none) (hv : bootBuiltins x = some (.builtin id)) (ha : DA X (e :: es) ms) (hn : x ≠ "__name__" := by decide) (hdb : (x == ("__debug__" : Str)) = false := by decide)
    (he : starEach (e :: es) X.env = (false, eval e X.env) :: starEach es X.env := by rfl) (hpl : (backTo pos (starEach es X.env)).any (·.1) = false := by rfl) : DF X (.Call (.Name x p) (e :: es) [] pos) (mBF f ms) :=
  pe_weak (pe_callB hc hg hm hv ha hn hdb he hpl) fun _ _ _ h => cbF hf h
theorem df_ty (hc : CallR X (.type T) r) (hf : CallF X.K f r) (hg : Gl X x) (hm : X.mg x = none) (hv : bootBuiltins x = some (.type T)) (ha : DA X (e :: es) ms) (hn : x ≠ "__name__" := by decide) (hdb : (x == ("__debug__" : Str)) = false := by decide)
    (he : starEach (e :: es) X.env = (false, eval e X.env) :: starEach es X.env := by rfl) (hpl : (backTo pos (starEach es X.env)).any (·.1) = false := by rfl) : DF X (.Call (.Name x p) (e :: es) [] pos) (mBF f ms) :=
  pe_weak (pe_callTy hc hg hm hv ha hn hdb he hpl) fun _ _ _ h => cbF hf h
end
/-! len -/
def lenD : List D → Option D
  | [.lst l] => some (.int l.length)
  | [.tup l] => some (.int l.length)
  | [.scr l] => some (.int l.length)
  | _ => none
theorem cd_len : CallD K lenD (fun xs H Q => ∃ p ys, xs = [.ref p] ∧ (SqL K H p ys ∨ SqT K H p ys) ∧ Q (.int ys.length) H) := by
  intro F ρ σ H vs ds z Q R t ef k
  unfold lenD at ef
  split at ef
  · cases ef
    obtain ⟨v, rfl, tv⟩ := topL1 t
    obtain ⟨a, xs, rfl, h1, h2⟩ := tv.lst
    exact ⟨a, xs, rfl, .inl (.inl (.inl h1)), k H _ (.refl R) (by rw [h2.length]; exact .int _)⟩
  · cases ef
    obtain ⟨v, rfl, tv⟩ := topL1 t
    obtain ⟨a, xs, rfl, h1, h2⟩ := tv.tup
    exact ⟨a, xs, rfl, .inr h1, k H _ (.refl R) (by rw [h2.length]; exact .int _)⟩
  · cases ef
    obtain ⟨v, rfl, tv⟩ := topL1 t
    obtain ⟨a, xs, rfl, h1, h2⟩ := tv.scr
    exact ⟨a, xs, rfl, .inl h1, k H _ (.refl R) (by rw [h2.length]; exact .int _)⟩
  · cases ef
/-! abs, int, max, min of two -/
def absD : List D → Option D
  | [.int i] => some (.int (if i < 0 then -i else i))
  | _ => none
theorem cd_abs : CallD K absD (fun xs H Q => ∃ i, xs = [.int i] ∧ Q (.int (if i < 0 then -i else i)) H) := by
  intro F ρ σ H vs ds z Q R t ef k
  unfold absD at ef
  split at ef
  · cases ef
    obtain ⟨v, rfl, tv⟩ := topL1 t
    exact ⟨_, by rw [tv.int], k H _ (.refl R) (.int _)⟩
  · cases ef
def intD : List D → Option D
  | [.int i] => some (.int i)
  | [.bl b] => some (.int (if b then 1 else 0))
  | _ => none
theorem cd_int : CallD K intD (fun xs H Q => (∃ i, xs = [.int i] ∧ Q (.int i) H) ∨ ∃ k, xs = [.bl k] ∧ Q (.int (if k then 1 else 0)) H) := by
  intro F ρ σ H vs ds z Q R t ef k
  unfold intD at ef
  split at ef
  · cases ef
    obtain ⟨v, rfl, tv⟩ := topL1 t
    exact .inl ⟨_, by rw [tv.int], k H _ (.refl R) (.int _)⟩
  · cases ef
    obtain ⟨v, rfl, tv⟩ := topL1 t
    exact .inr ⟨_, by rw [tv.bl], k H _ (.refl R) (.int _)⟩
  · cases ef
def max2D : List D → Option D
  | [.int i, .int j] => some (.int (if j > i then j else i))
  | _ => none
theorem cd_max2 : CallD K max2D (fun xs H Q => ∃ i j, xs = [.int i, .int j] ∧ Q (.int (if j > i then j else i)) H) := by
  intro F ρ σ H vs ds z Q R t ef k
  unfold max2D at ef
  split at ef
  · cases ef
    obtain ⟨v, u, rfl, tv, tu⟩ := topL2 t
    exact ⟨_, _, by rw [tv.int, tu.int], k H _ (.refl R) (.int _)⟩
  · cases ef
def min2D : List D → Option D
  | [.int i, .int j] => some (.int (if j < i then j else i))
  | _ => none
theorem cd_min2 : CallD K min2D (fun xs H Q => ∃ i j, xs = [.int i, .int j] ∧ Q (.int (if j < i then j else i)) H) := by
  intro F ρ σ H vs ds z Q R t ef k
  unfold min2D at ef
  split at ef
  · cases ef
    obtain ⟨v, u, rfl, tv, tu⟩ := topL2 t
    exact ⟨_, _, by rw [tv.int, tu.int], k H _ (.refl R) (.int _)⟩
  · cases ef
/-! sum, all, any -/
def sumD : List D → Option D
  | [.lst l] => ob (intsOf l) fun ns => some (.int ns.sum)
  | [.tup l] => ob (intsOf l) fun ns => some (.int ns.sum)
  | _ => none
def rSumT (K : PySem.W.Frag) : List V → Hp → VK → Prop := fun vs H Q => ∃ (a : Addr) (ns : List Int), vs = [V.ref a] ∧ SqT K H a (ns.map V.int) ∧ Q (.int ns.sum) H
open PyProof.Rows in
theorem sum_tupT {prog : Program} {w : World} {A : Around} {E : Value → Shared → Prop} {s : Shared} {l : Addr} {its : List Value} {ns : List Int} {Q : Value → Shared → Prop} (hh : A.handled = none) (hl : s.heap.IsTuple l its.toArray) (hi : IntsAre its ns)
    (h : ∀ h' tk t', (∀ b o, s.heap.get? b = some o → h'.get? b = some o) → Q (.int ns.sum t') { s with heap := h', toks := tk }) : wpAny (model prog w) A (call (.builtin "sum") [.ref l]) Q E s := by
  obtain ⟨xs, e⟩ := hi.allInts.items
  have hn : numsOf (intItems xs).toList = ns := by rw [← e]; exact hi.numsOf
  rw [nums_intItems] at hn
  rw [e] at hl
  have hlt : l < s.heap.objs.size := by obtain ⟨_, e, _⟩ := hl; exact Heap.lt_size e
  refine call_sum_walkG (wpAny_pyIter_tuple hl ?_)
  refine ⟨s.heap.objs.size, _, _, _, _, _, numAt xs, rfl, Walks.tuple (A := A.in1) hh _ l (Nat.ne_of_lt hlt) (intItems xs), ⟨⟨_, Heap.get?_push_size _ rfl, rfl, rfl⟩, ?_⟩, fun b hb => ?_, (fun _ _ => intItems_at), fun h' tk t' hk => ?_⟩
  · obtain ⟨o, e1, e2, e3⟩ := hl
    exact ⟨o, Heap.get?_push_of_some _ e1, e2, e3⟩
  · show b < (s.heap.push _).objs.size
    rw [Heap.size_push]
    rcases List.mem_cons.mp hb with rfl | hb
    · exact Nat.lt_succ_self _
    · rcases List.mem_cons.mp hb with rfl | hb
      · exact Nat.lt_succ_of_lt hlt
      · cases hb
  · have q := h h' tk t' fun b o hb => hk b o (by
      intro hm
      have : b = s.heap.objs.size := by simpa using hm
      exact Nat.lt_irrefl _ (by have q := Heap.lt_size hb; rw [this] at q; exact q)) (Heap.get?_push_of_some _ hb)
    rw [← hn] at q
    rw [preSum_eq, List.take_of_length_le (by simp [intItems])]
    exact q
theorem cr_sumT (hc : X.calm = true) : CallR X (.builtin "sum") (rSumT X.K) := by
  intro pins s σ H vs us Q I r h
  obtain ⟨a, ns, rfl, hs, q⟩ := h
  obtain ⟨its, rv, hl, _⟩ := I.tuple hs
  rw [Vals.ref1 r]
  exact sum_tupT (I.ok.hd hc) hl rv.ints fun h' tk t' hk => ⟨.int _, H, I.kept hk, ⟨_, rfl⟩, q⟩
theorem CallR.or {f : Value} {r r' : List V → Hp → VK → Prop} (h : CallR X f r) (h' : CallR X f r') : CallR X f (fun vs H Q => r vs H Q ∨ r' vs H Q) := fun pins s σ H xs us Q I rv q => q.elim (h pins s σ H xs us Q I rv) (h' pins s σ H xs us Q I rv)
theorem cr_sum2 (hc : X.calm = true) : CallR X (.builtin "sum") (fun vs H Q => rSum X.K vs H Q ∨ rSumT X.K vs H Q) := CallR.or (cr_sum hc) (cr_sumT hc)
theorem cd_sum : CallD K sumD (fun vs H Q => rSum K vs H Q ∨ rSumT K vs H Q) := by
  intro F ρ σ H vs ds z Q R t ef k
  unfold sumD at ef
  split at ef
  · obtain ⟨ns, e1, ef⟩ := ob_inv ef
    cases ef
    obtain ⟨v, rfl, tv⟩ := topL1 t
    obtain ⟨a, xs, rfl, h1, h2⟩ := tv.lst
    exact .inl ⟨a, ns, rfl, .inl (.inl (by rw [← h2.ints_of e1]; exact h1)), k H _ (.refl R) (.int _)⟩
  · obtain ⟨ns, e1, ef⟩ := ob_inv ef
    cases ef
    obtain ⟨v, rfl, tv⟩ := topL1 t
    obtain ⟨a, xs, rfl, h1, h2⟩ := tv.tup
    exact .inr ⟨a, ns, rfl, by rw [← h2.ints_of e1]; exact h1, k H _ (.refl R) (.int _)⟩
  · cases ef
def allD : List D → Option D
  | [.lst l] => ob (blsOf l) fun ns => some (.bl (ns.all id))
  | _ => none
def anyD : List D → Option D
  | [.lst l] => ob (blsOf l) fun ns => some (.bl (ns.any id))
  | _ => none
theorem cd_all : CallD K allD (rAll K) := by
  intro F ρ σ H vs ds z Q R t ef k
  unfold allD at ef
  split at ef
  · obtain ⟨ns, e1, ef⟩ := ob_inv ef
    cases ef
    obtain ⟨v, rfl, tv⟩ := topL1 t
    obtain ⟨a, xs, rfl, h1, h2⟩ := tv.lst
    exact ⟨a, ns, rfl, .inl (.inl (by rw [← h2.bls_of e1]; exact h1)), k H _ (.refl R) (.bl _)⟩
  · cases ef
theorem cd_any : CallD K anyD (rAny K) := by
  intro F ρ σ H vs ds z Q R t ef k
  unfold anyD at ef
  split at ef
  · obtain ⟨ns, e1, ef⟩ := ob_inv ef
    cases ef
    obtain ⟨v, rfl, tv⟩ := topL1 t
    obtain ⟨a, xs, rfl, h1, h2⟩ := tv.lst
    exact ⟨a, ns, rfl, .inl (.inl (by rw [← h2.bls_of e1]; exact h1)), k H _ (.refl R) (.bl _)⟩
  · cases ef
/-! tuple(..), list(..) -/
def tupD : List D → Option D
  | [.lst l] => some (.tup l)
  | [.tup l] => some (.tup l)
  | _ => none
theorem cd_tup : CallD K tupD (fun xs H Q => ∃ p ys, xs = [.ref p] ∧ ((SqL K H p ys ∧ ∀ l, H l = none → Q (.ref l) (upd H l (.tup ys))) ∨ (SqT K H p ys ∧ Q (.ref p) H))) := by
  intro F ρ σ H vs ds z Q R t ef k
  unfold tupD at ef
  split at ef
  · cases ef
    obtain ⟨v, rfl, tv⟩ := topL1 t
    obtain ⟨a, xs, rfl, h1, h2⟩ := tv.lst
    refine ⟨a, xs, rfl, .inl ⟨.inl (.inl h1), fun p hp => ?_⟩⟩
    obtain ⟨s, q⟩ := R.newTup h2 hp
    exact k _ _ s q
  · cases ef
    obtain ⟨v, rfl, tv⟩ := topL1 t
    cases tv with
    | rep rv =>
      obtain ⟨a, xs, rfl, h1, h2⟩ := (Top.rep (H := H) rv).tup
      exact ⟨a, xs, rfl, .inr ⟨h1, k H _ (.refl R) rv⟩⟩
    | own e h => rename_i a o; cases o <;> exact h.elim
  · cases ef
def lstD : List D → Option D
  | [.lst l] => some (.lst l)
  | [.tup l] => some (.lst l)
  | [.scr l] => some (.lst l)
  | _ => none
theorem cf_list : CallF K lstD (fun xs H Q => ∃ p ys, xs = [.ref p] ∧ (SqL K H p ys ∨ SqT K H p ys) ∧ ∀ l, H l = none → Q (.ref l) (upd H l (.lst ys))) := by
  intro F ρ σ H vs ds z Q R t ef k
  unfold lstD at ef
  split at ef
  · cases ef
    obtain ⟨v, rfl, tv⟩ := topL1 t
    obtain ⟨a, xs, rfl, h1, h2⟩ := tv.lst
    exact ⟨a, xs, rfl, .inl (.inl (.inl h1)), fun p hp => k H p _ (.refl R) hp h2⟩
  · cases ef
    obtain ⟨v, rfl, tv⟩ := topL1 t
    obtain ⟨a, xs, rfl, h1, h2⟩ := tv.tup
    exact ⟨a, xs, rfl, .inr h1, fun p hp => k H p _ (.refl R) hp h2⟩
  · cases ef
    obtain ⟨v, rfl, tv⟩ := topL1 t
    obtain ⟨a, xs, rfl, h1, h2⟩ := tv.scr
    exact ⟨a, xs, rfl, .inl h1, fun p hp => k H p _ (.refl R) hp h2⟩
  · cases ef
end
end DL

set_option Elab.async false
set_option linter.all false
set_option maxRecDepth 100000
namespace DL
open PySem PySem.Spec L2
set_option autoImplicit false

/-! ### isinstance of built-in types -/
inductive Ty where
  | int | bool | tuple | list | str
def Ty.nm : Ty → String
  | .int => "int" | .bool => "bool" | .tuple => "tuple" | .list => "list" | .str => "str"
def isT : Ty → D → Option Bool
  | t, .non => some false
  | .int, .bl _ => some true
  | .bool, .bl _ => some true
  | _, .bl _ => some false
  | .int, .int _ => some true
  | _, .int _ => some false
  | .str, .str _ => some true
  | _, .str _ => some false
  | .tuple, .tup _ => some true
  | _, .tup _ => some false
  | .list, .lst _ => some true
  | _, .lst _ => some false
  | .list, .scr _ => some true
  | _, .scr _ => some false
  | _, .dk _ => none
  | _, .dt _ => none
  | _, .ins _ _ => none
  | _, .fn _ => none
  | _, .rg _ _ => none
def isiD (t : Ty) : List D → Option D
  | [d] => ob (isT t d) fun b => some (.bl b)
  | _ => none
section
variable {X : Cx} {K : PySem.W.Frag}
theorem Top.isT {F : Fr0} {H : Hp} {v : V} {d : D} {t : Ty} {b : Bool} (tv : Top K H (hid F H) v d) (e : isT t d = some b) : ∃ ty : String, TyX K H v (.type ty) ∧ kitB ty t.nm = some b := by
  have tT : ∀ {a : Addr} {xs : List V}, SqT K H a xs → TyX K H (.ref a) (.type "tuple") := fun {a xs} h => by
    rcases h with (h | ⟨o, h⟩) | ⟨o, its, n, h1, h2, _⟩
    · exact .base (.tup h)
    · exact .fTuple h
    · exact .kTuple h1 h2
  have tL : ∀ {a : Addr} {xs : List V}, SqL K H a xs → TyX K H (.ref a) (.type "list") := fun {a xs} h => by
    rcases h with (h | ⟨o, h⟩) | ⟨o, its, n, h1, h2, _⟩
    · exact .base (.lst h)
    · exact .base (.frz h)
    · exact .kList h1 h2
  cases d with
  | non => rw [tv.non]; exact ⟨"NoneType", .base .non, by cases t <;> cases e <;> decide +kernel⟩
  | bl x => rw [tv.bl]; exact ⟨"bool", .base (.bl _), by cases t <;> cases e <;> decide +kernel⟩
  | int x => rw [tv.int]; exact ⟨"int", .base (.int _), by cases t <;> cases e <;> decide +kernel⟩
  | str x => rw [tv.str]; exact ⟨"str", .base (.str _), by cases t <;> cases e <;> decide +kernel⟩
  | tup l =>
    obtain ⟨a, xs, rfl, h1, _⟩ := tv.tup
    exact ⟨"tuple", tT h1, by cases t <;> cases e <;> decide +kernel⟩
  | lst l =>
    obtain ⟨a, xs, rfl, h1, _⟩ := tv.lst
    exact ⟨"list", .base (.lst h1), by cases t <;> cases e <;> decide +kernel⟩
  | scr l =>
    obtain ⟨a, xs, rfl, h1, _⟩ := tv.scr
    exact ⟨"list", tL h1, by cases t <;> cases e <;> decide +kernel⟩
  | dk _ => cases t <;> cases e
  | dt _ => cases t <;> cases e
  | ins _ _ => cases t <;> cases e
  | fn _ => cases t <;> cases e
  | rg _ _ => cases t <;> cases e
def mIsi (t : Ty) (m : EV) : EV := bd m fun x ρ => ob (deref ρ x) fun d => ob (isT t d) fun b => some (.v (.bl b), ρ)
theorem de_isi {x y : Str} {p pos py : Pos} {e : Expr} {m : EV} (t : Ty) (hg : Gl X x) (hm : X.mg x = none) (hv : bootBuiltins x = some (.builtin "isinstance")) (he' : DE X e m)
    (hgy : Gl X y) (hmy : X.mg y = none) (hvy : bootBuiltins y = some (.type t.nm)) (hn : x ≠ "__name__" := by decide) (hdb : (x == ("__debug__" : Str)) = false := by decide) (hny : y ≠ "__name__" := by decide) (hdy : (y == ("__debug__" : Str)) = false := by decide)
    (hs1 : starEach [e, .Name y py] X.env = (false, eval e X.env) :: starEach [.Name y py] X.env := by rfl) (hs2 : starEach [.Name y py] X.env = (false, eval (.Name y py) X.env) :: starEach [] X.env := by rfl) (hpl : (backTo pos (starEach [.Name y py] X.env)).any (·.1) = false := by rfl) :
    DE X (.Call (.Name x p) [e, .Name y py] [] pos) (mIsi t m) :=
  pe_weak (pe_callB call_isi hg hm hv (pa_cons he' (pa_cons (pe_bltn (v := .ty t.nm) hgy hmy hvy rfl hny hdy) pa_nil hs2) hs1) hn hdb hs1 hpl) fun σ H Q ⟨F, ρ, z, ρ', R, em, k⟩ => by
  obtain ⟨y1, ρ1, e1, em⟩ := bd_inv em
  obtain ⟨d, e2, em⟩ := ob_inv em
  obtain ⟨b, e3, em⟩ := ob_inv em
  cases em
  refine ⟨F, ρ, y1, _, R, e1, fun H1 v s1 r1 => ?_⟩
  obtain ⟨ty, q1, q2⟩ := (s1.rel.top r1 e2).isT e3
  exact ⟨v, .ty t.nm, .type ty, .type t.nm, b, rfl, .ty _, q1, kit_ty q2, k H1 _ s1 (.bl b)⟩

/-! ### slices -/
abbrev OV := Env' → Option (Option Int × Env')
def tDO (K : PySem.W.Frag) (m : OV) : TO := fun σ H Q => ∃ F ρ x ρ', Rel K F ρ σ H ∧ m ρ = some (x, ρ') ∧ ∀ H', Stp K F ρ ρ' σ σ H H' → Q x H'
def DO (X : Cx) (e : Option Expr) (m : OV) : Prop := PO X e (tDO X.K m)
theorem po_weak {X : Cx} {e : Option Expr} {t t' : TO} (h : PO X e t) (w : ∀ σ H Q, t' σ H Q → t σ H Q) : PO X e t' := ⟨fun pins s σ H Q I q => h.run pins s σ H Q I (w σ H Q q)⟩
def oNo : OV := fun ρ => some (none, ρ)
def oSome (m : EV) : OV := bd m fun x ρ => ob (deref ρ x) fun d => match d with
  | .int i => some (some i, ρ)
  | _ => none
theorem do_none : DO X none oNo := po_weak po_none fun σ H Q ⟨F, ρ, z, ρ', R, em, k⟩ => by
  cases em
  exact k H (.refl R)
theorem do_some {e : Expr} {m : EV} (h : DE X e m) : DO X (some e) (oSome m) := po_weak (po_some h) fun σ H Q ⟨F, ρ, z, ρ', R, em, k⟩ => by
  obtain ⟨y1, ρ1, e1, em⟩ := bd_inv em
  obtain ⟨d, e2, em⟩ := ob_inv em
  split at em
  · cases em
    exact ⟨F, ρ, y1, _, R, e1, fun H1 v s1 r1 => ⟨_, (s1.rel.top r1 e2).int, k H1 s1⟩⟩
  · cases em
def cutD (xs : List D) (lo hi : Option Int) : List D := (xs.drop (HT.sIx xs.length 0 lo)).take (HT.sIx xs.length xs.length hi - HT.sIx xs.length 0 lo)
theorem RepL.cut {G : Hp} {xs : List V} {ds : List D} (r : RepL K G xs ds) (lo hi : Option Int) : RepL K G (cutV xs lo hi) (cutD ds lo hi) := by
  unfold cutV cutD
  rw [r.length]
  exact (r.drop _).take _
def mSlL (m : EV) (ml mh : OV) : FV := bd m fun x => bd ml fun lo => bd mh fun hi ρ => ob (deref ρ x) fun d => match d with
  | .lst l => some (.lst (cutD l lo hi), ρ)
  | _ => none
theorem df_sl {e : Expr} {m : EV} {lo hi : Option Expr} {ml mh : OV} {p2 pos : Pos} (he : DE X e m) (hl : DO X lo ml) (hh : DO X hi mh) : DF X (.Subscript e (.Slice lo hi none p2) pos) (mSlL m ml mh) := pe_weak (pe_slice sl_list he hl hh) fun σ H Q ⟨F, ρ, z, ρ', R, em, k⟩ => by
  obtain ⟨y1, ρ1, e1, em⟩ := bd_inv em
  obtain ⟨l, ρ2, e2, em⟩ := bd_inv em
  obtain ⟨h, ρ3, e3, em⟩ := bd_inv em
  obtain ⟨d, e4, em⟩ := ob_inv em
  split at em
  · cases em
    refine ⟨F, ρ, y1, ρ1, R, e1, fun H1 v s1 r1 => ⟨F, ρ1, l, ρ2, s1.rel, e2, fun H2 s2 => ⟨F, ρ2, h, _, s2.rel, e3, fun H3 s3 => ?_⟩⟩⟩
    obtain ⟨a, xs, rfl, h1, h2⟩ := (s3.rel.top ((r1.le s2.vle).le s3.vle) e4).lst
    refine ⟨a, xs, rfl, .inl (.inl h1), fun p hp => ?_⟩
    obtain ⟨a, b, c, d, e, f, g⟩ := ((s1.trans s2).trans s3).newF hp (o := .lst (cutV xs l h)) (d := .lst _) (h2.cut l h)
    exact k _ p _ a b c d e f g
  · cases em
def mSlT (m : EV) (ml mh : OV) : EV := bd m fun x => bd ml fun lo => bd mh fun hi ρ => ob (deref ρ x) fun d => match d with
  | .tup l => some (.v (.tup (cutD l lo hi)), ρ)
  | _ => none
theorem cut_whole {xs : List D} {lo hi : Option Int} (h : HT.sIx xs.length 0 lo = 0 ∧ HT.sIx xs.length xs.length hi = xs.length) : cutD xs lo hi = xs := by
  unfold cutD
  rw [h.1, h.2, List.drop_zero, Nat.sub_zero, List.take_length]
theorem de_slT {e : Expr} {m : EV} {lo hi : Option Expr} {ml mh : OV} {p2 pos : Pos} (he : DE X e m) (hl : DO X lo ml) (hh : DO X hi mh) : DE X (.Subscript e (.Slice lo hi none p2) pos) (mSlT m ml mh) := pe_weak (pe_slice sl_tupA he hl hh) fun σ H Q ⟨F, ρ, z, ρ', R, em, k⟩ => by
  obtain ⟨y1, ρ1, e1, em⟩ := bd_inv em
  obtain ⟨l, ρ2, e2, em⟩ := bd_inv em
  obtain ⟨h, ρ3, e3, em⟩ := bd_inv em
  obtain ⟨d, e4, em⟩ := ob_inv em
  split at em
  · cases em
    refine ⟨F, ρ, y1, ρ1, R, e1, fun H1 v s1 r1 => ⟨F, ρ1, l, ρ2, s1.rel, e2, fun H2 s2 => ⟨F, ρ2, h, _, s2.rel, e3, fun H3 s3 => ?_⟩⟩⟩
    have t := s3.rel.top ((r1.le s2.vle).le s3.vle) e4
    have s := (s1.trans s2).trans s3
    cases t with
    | own e h => rename_i a o; cases o <;> exact h.elim
    | rep rv =>
      obtain ⟨a, xs, rfl, h1, h2⟩ := (Top.rep (H := H3) rv).tup
      refine ⟨a, xs, rfl, h1, fun w => ?_, fun w p hp => ?_⟩
      · rw [h2.length] at w
        refine k H3 _ s ?_
        show Rep X.K _ _ (.tup (cutD _ l h))
        rw [cut_whole w]; exact rv
      · obtain ⟨s4, q⟩ := s3.rel.newTup (h2.cut l h) hp
        exact k _ _ (s.trans s4) q
  · cases em
def mRevL (m : EV) : FV := bd m fun x ρ => ob (deref ρ x) fun d => match d with
  | .lst l => some (.lst l.reverse, ρ)
  | _ => none
theorem df_revL {e : Expr} {m : EV} {k : Nat} {p1 p2 p3 pos : Pos} (he : DE X e m) : DF X (.Subscript e (.Slice none none (some (.UnaryOp .USub (.Constant (.int 1) k p1) p2)) p3) pos) (mRevL m) := pe_weak (pe_revL he) fun σ H Q ⟨F, ρ, z, ρ', R, em, k⟩ => by
  obtain ⟨y1, ρ1, e1, em⟩ := bd_inv em
  obtain ⟨d, e4, em⟩ := ob_inv em
  split at em
  · cases em
    refine ⟨F, ρ, y1, _, R, e1, fun H1 v s1 r1 => ?_⟩
    obtain ⟨a, xs, rfl, h1, h2⟩ := (s1.rel.top r1 e4).lst
    refine ⟨a, xs, rfl, .inl (.inl h1), fun p hp => ?_⟩
    obtain ⟨a, b, c, d, e, f, g⟩ := s1.newF hp (o := .lst xs.reverse) (d := .lst _) h2.reverse
    exact k _ p _ a b c d e f g
  · cases em

/-! ### + and * of tuples and lists -/
def catT : D → D → Option D
  | .tup a, .tup b => grd (lineOk (a.length + b.length)) (some (.tup (a ++ b)))
  | _, _ => none
theorem od_catT : OpD K catT (rCatA K) := by
  intro F ρ σ H v u d e z Q R tv tu ef k
  unfold catT at ef
  split at ef
  · obtain ⟨g, ef⟩ := grd_inv ef
    cases ef
    cases tv with
    | own e h => rename_i a o; cases o <;> exact h.elim
    | rep rv =>
      cases tu with
      | own e h => rename_i a o; cases o <;> exact h.elim
      | rep ru =>
        obtain ⟨a, xs, rfl, h1, h2⟩ := (Top.rep (H := H) rv).tup
        obtain ⟨b, ys, rfl, g1, g2⟩ := (Top.rep (H := H) ru).tup
        refine ⟨a, b, xs, ys, rfl, rfl, h1, g1, by rw [h2.length, g2.length]; exact lineOk_of g, fun w => ?_, fun _ w => ?_, fun _ _ p hp => ?_⟩
        · subst w
          have : List.length _ = 0 := h2.length.symm
          rw [List.length_eq_zero_iff] at this
          exact k H _ (.refl R) (by rw [this, List.nil_append]; exact ru)
        · subst w
          have : List.length _ = 0 := g2.length.symm
          rw [List.length_eq_zero_iff] at this
          exact k H _ (.refl R) (by rw [this, List.append_nil]; exact rv)
        · obtain ⟨s4, q⟩ := R.newTup (h2.append g2) hp
          exact k _ _ s4 q
  · cases ef
/-- a two-place operation that makes a list -/
def OpF (K : PySem.W.Frag) (f : D → D → Option D) (r : R2) : Prop := ∀ (F : Fr0) (ρ : Env') (σ : St) (H : Hp) (v u : V) (d e z : D) (Q : VK), Rel K F ρ σ H → Top K H (vis F ρ σ H) v d → Top K H (vis F ρ σ H) u e → f d e = some z →
  (∀ p o, H p = none → HRep K (vis F ρ σ H) o z → Q (.ref p) (upd H p o)) → r v u H Q
def m2F (f : D → D → Option D) (ma mb : EV) : FV := bd ma fun x => bd mb fun y ρ => ob (deref ρ x) fun d => ob (deref ρ y) fun e => ob (f d e) fun z => some (z, ρ)
theorem df_op {op : Operator} {r : R2} {f : D → D → Option D} {a b : Expr} {ma mb : EV} {pos : Pos} (ho : OpR X (binaryOp op) r) (hd : OpF X.K f r) (ha : DE X a ma) (hb : DE X b mb) : DF X (.BinOp a op b pos) (m2F f ma mb) := pe_weak (pe_op ho ha hb) fun σ H Q ⟨F, ρ, z, ρ', R, em, k⟩ => by
  obtain ⟨x1, ρ1, e1, em⟩ := bd_inv em
  obtain ⟨y1, ρ2, e2, em⟩ := bd_inv em
  obtain ⟨d, e3, em⟩ := ob_inv em
  obtain ⟨e, e4, em⟩ := ob_inv em
  obtain ⟨z, e5, em⟩ := ob_inv em
  cases em
  refine ⟨F, ρ, x1, ρ1, R, e1, fun H1 v s1 r1 => ⟨F, ρ1, y1, _, s1.rel, e2, fun H2 u s2 r2 => ?_⟩⟩
  refine hd F _ σ H2 v u d e _ Q s2.rel (s2.rel.top (r1.le s2.vle) e3) (s2.rel.top r2 e4) e5 fun p o hp ho => ?_
  obtain ⟨a, b, c, d, e, f, g⟩ := (s1.trans s2).newF hp ho
  exact k _ p o a b c d e f g
def catL : D → D → Option D
  | .lst a, .lst b => grd (lineOk (a.length + b.length)) (some (.lst (a ++ b)))
  | _, _ => none
theorem of_catL : OpF K catL rCat := by
  intro F ρ σ H v u d e z Q R tv tu ef k
  unfold catL at ef
  split at ef
  · obtain ⟨g, ef⟩ := grd_inv ef
    cases ef
    obtain ⟨a, xs, rfl, h1, h2⟩ := tv.lst
    obtain ⟨b, ys, rfl, g1, g2⟩ := tu.lst
    exact ⟨a, b, xs, ys, rfl, rfl, h1, g1, by rw [h2.length, g2.length]; exact lineOk_of g, fun p hp => k p (.lst (xs ++ ys)) hp (h2.append g2)⟩
  · cases ef
theorem RepL.rep {G : Hp} {xs : List V} {ds : List D} (r : RepL K G xs ds) : ∀ n : Nat, RepL K G (List.replicate n xs).flatten (List.replicate n ds).flatten
  | 0 => .nil
  | n + 1 => by
    rw [List.replicate_succ, List.replicate_succ, List.flatten_cons, List.flatten_cons]
    exact r.append (RepL.rep r n)
def repL : D → D → Option D
  | .lst a, .int k => grd (decide (-(2 ^ 63) ≤ k ∧ k < 2 ^ 63) && lineOk (a.length * k.toNat)) (some (.lst (List.replicate k.toNat a).flatten))
  | _, _ => none
theorem of_repL : OpF K repL rRep := by
  intro F ρ σ H v u d e z Q R tv tu ef k
  unfold repL at ef
  split at ef
  · obtain ⟨g, ef⟩ := grd_inv ef
    cases ef
    rw [Bool.and_eq_true] at g
    obtain ⟨a, xs, rfl, h1, h2⟩ := tv.lst
    have q := of_decide_eq_true g.1
    exact ⟨a, _, xs, rfl, tu.int, h1, q.1, q.2, by rw [h2.length]; exact lineOk_of g.2, fun p hp => k p (.lst _) hp (h2.rep _)⟩
  · cases ef

/-! ### x[i] = e, x a slot's own list -/
def sSetIx (i : Nat) (mk m : EV) : SVt := fun ρ => grd (owned ρ i) (ob (m ρ) fun p => ob (mk p.2) fun q => ob (deref q.2 q.1) fun kd => ob (toV q.2 p.1) fun w => match w.2[i]? with
  | some (some (.o b (.lst l))) => (match kd with
    | .int k => ob (ixN l.length k) fun j => some (.nx (w.2.set i (some (.o b (.lst (l.set j w.1))))))
    | _ => none)
  | _ => none)
theorem ds_setIx {i : Nat} {x : Str} {k e : Expr} {mk m : EV} {px tp pos : Pos} (hN : X.N[i]? = some x) (hv : Vis X.env.scope x) (he : DE X e m) (hk : DE X k mk) (hd : (x == ("__debug__" : Str)) = false := by decide) (hcd : (x == ("__classdict__" : Str)) = false := by decide)
    (hs : swapsWithSole [.Subscript (.Name x px) k tp] e pos.line X.env = pure false := by rfl) (hw : swappedStores [.Subscript (.Name x px) k tp] e X.env = pure none := by rfl)
    (h1 : (assignEach [.Subscript (.Name x px) k tp] X.env).map (·.2) = [assign (.Subscript (.Name x px) k tp) X.env] := by rfl)
    (ha : ∀ v, assign (.Subscript (.Name x px) k tp) X.env v = (do
      let ov ← holding [v] (eval (.Name x px) X.env)
      let iv ← holding [v, ov] (eval k X.env)
      standAt tp
      holding [v, ov, iv] (setItem ov iv v)
      release [v, ov, iv] []) := by intro _; rfl) : DS X (.Assign [.Subscript (.Name x px) k tp] e pos) (sSetIx i mk m) :=
  ps_weak (ps_asg he (pg_sub (pe_var hN hv hd hcd) hk set_list ha) hs hw h1) fun D σ H ⟨F, ρ, r, R, em, kk⟩ => by
  obtain ⟨g, em⟩ := grd_inv em
  obtain ⟨a, ha0⟩ := R.owned g
  obtain ⟨⟨y, ρ1⟩, e1, em⟩ := ob_inv em
  obtain ⟨⟨kx, ρ2⟩, e2, em⟩ := ob_inv em
  obtain ⟨kd, e3, em⟩ := ob_inv em
  obtain ⟨⟨d, ρ3⟩, e4, em⟩ := ob_inv em
  simp only at em
  split at em
  · rename_i b l hi
    split at em
    · obtain ⟨j, e5, em⟩ := ob_inv em
      cases em
      refine ⟨F, ρ, y, ρ1, R, e1, fun H1 v s1 r1 => ⟨.ref a, ha0, F, ρ1, kx, ρ2, s1.rel, e2, fun H2 u s2 r2 => ?_⟩⟩
      have t3 := (s2.rel.top r2 e3).int
      obtain ⟨s3, r3⟩ := s2.rel.toV (r1.le s2.vle) e4
      obtain ⟨a', o, g1, g2, g3, g4⟩ := s3.rel.own i b _ hi
      rw [ha0] at g1; cases g1
      cases o with
      | lst xs =>
        have hl := RepL.length (show RepL X.K _ xs l from g3)
        refine ⟨a, xs, _, j, rfl, t3, g2, by rw [hl]; exact e5, ?_⟩
        have s4 := s3.rel.write (o' := .lst (xs.set j v)) (d' := .lst (l.set j d)) hi ha0 (RepL.set r3 j g3)
        exact kk σ _ (((s1.trans s2).trans s3).trans s4)
      | _ => exact g3.elim
    · cases em
  · cases em
/-! ### x op= e, a name that holds an int -/
def sAug (i : Nat) (f : Int → Int → Int) (m : EV) : SVt := fun ρ => match ρ[i]? with
  | some (some (.v (.int a))) => ob (m ρ) fun p => ob (deref p.2 p.1) fun d => match d with
    | .int c => grd (canSet p.2 i) (some (.nx (p.2.set i (some (.v (.int (f a c)))))))
    | _ => none
  | _ => none
theorem ds_aug {i : Nat} {x : Str} {e : Expr} {m : EV} {op : Operator} {f : Int → Int → Int} {pos' pos : Pos} (hN : X.N.Nodup) (hi : X.N[i]? = some x) (hx : Loc X.env.scope x) (he : DE X e m) (ho : PIp X op (ipI f)) (hf : X.fn x = true ∨ X.env.scope.names.lookup x = some .local := by first | exact .inl rfl | exact .inr rfl | assumption) :
    DS X (.AugAssign (.Name x pos') op e pos) (sAug i f m) := ps_weak (ps_aug hN hi hx he ho hf) fun D σ H ⟨F, ρ, r, R, em, k⟩ => by
  unfold sAug at em
  split at em
  · rename_i a ha
    obtain ⟨⟨y, ρ1⟩, e1, em⟩ := ob_inv em
    obtain ⟨d, e2, em⟩ := ob_inv em
    split at em
    · obtain ⟨g, em⟩ := grd_inv em
      cases em
      obtain ⟨v, h1, h2⟩ := R.val i _ ha
      cases h2
      refine ⟨_, h1, F, ρ, y, ρ1, R, e1, fun H1 w s1 r1 => ?_⟩
      have t := (s1.rel.top r1 e2).int
      exact ⟨_, _, rfl, t, k _ H1 (s1.trans (s1.rel.setV (canSet_of g).1 (canSet_of g).2 (.int _)))⟩
    · cases em
  · cases em
/-! ### methods of lists -/
def mAppend (i : Nat) (m : EV) : EV := fun ρ => grd (owned ρ i) (ob (m ρ) fun p => ob (toV p.2 p.1) fun w => match w.2[i]? with
  | some (some (.o b (.lst l))) => grd (decide (l.length < 16777216)) (some (.v .non, w.2.set i (some (.o b (.lst (l ++ [w.1]))))))
  | _ => none)
theorem tyV_own {F : Fr0} {ρ : Env'} {σ : St} {H : Hp} {i : Nat} {a : Addr} {xs : List V} (h : H a = some (.lst xs)) : tyV K "list" (.ref a) H := .inl ⟨rfl, xs, .inl (.inl h)⟩
theorem Rel.ownLst {F : Fr0} {ρ : Env'} {σ : St} {H : Hp} {i : Nat} {b : Bool} {l : List D} {a : Addr} (R : Rel K F ρ σ H) (h : ρ[i]? = some (some (.o b (.lst l)))) (ha : σ[i]? = some (some (.ref a))) : ∃ xs, H a = some (.lst xs) ∧ RepL K (vis F ρ σ H) xs l := by
  obtain ⟨a', o, g1, g2, g3, g4⟩ := R.own i b _ h
  rw [ha] at g1; cases g1
  cases o with
  | lst xs => exact ⟨xs, g2, g3⟩
  | _ => exact g3.elim
def isOwnL (ρ : Env') (i : Nat) : Bool := match ρ[i]? with
  | some (some (.o _ (.lst _))) => true
  | _ => false
theorem Rel.isLst {F : Fr0} {ρ : Env'} {σ : St} {H : Hp} {i : Nat} (R : Rel K F ρ σ H) (h : isOwnL ρ i = true) : ∃ a xs, σ[i]? = some (some (.ref a)) ∧ H a = some (.lst xs) := by
  unfold isOwnL at h
  split at h
  · rename_i b l e
    obtain ⟨a, o, g1, g2, g3, g4⟩ := R.own i b _ e
    cases o with
    | lst xs => exact ⟨a, xs, g1, g2⟩
    | _ => exact g3.elim
  · cases h
def mMeth1 (i : Nat) (f : List D → D → Option (D × List D)) (m : EV) : EV := fun ρ => grd (isOwnL ρ i) (ob (m ρ) fun p => ob (toV p.2 p.1) fun w => match w.2[i]? with
  | some (some (.o b (.lst l))) => ob (f l w.1) fun z => some (.v z.1, w.2.set i (some (.o b (.lst z.2))))
  | _ => none)
/-- a method of one argument on a slot's own list -/
def MtD1 (K : PySem.W.Frag) (f : List D → D → Option (D × List D)) (r : V → List V → Hp → VK → Prop) : Prop := ∀ (G : Hp) (H : Hp) (a : Addr) (xs : List V) (l : List D) (v : V) (d : D) (z : D × List D) (Q : VK), H a = some (.lst xs) → RepL K G xs l → Top K H G v d → Rep K G v d → f l d = some z →
  (∀ xs' w, RepL K G xs' z.2 → Rep K G w z.1 → Q w (upd H a (.lst xs'))) → r (.ref a) [v] H Q
theorem de_meth1 {i : Nat} {x name : Str} {id : String} {r : V → List V → Hp → VK → Prop} {f : List D → D → Option (D × List D)} {e : Expr} {m : EV} {px apos cpos : Pos} (slot : Slot "list" name id) (hty : typeOf (.builtin id) = pure (.type "method_descriptor")) (hm : MtR X id r) (hf : MtD1 X.K f r)
    (hN : X.N[i]? = some x) (hv : Vis X.env.scope x) (he : DE X e m) (hd : (x == ("__debug__" : Str)) = false := by decide) (hcd : (x == ("__classdict__" : Str)) = false := by decide) (hs1 : starEach [e] X.env = (false, eval e X.env) :: starEach [] X.env := by rfl)
    (hbase : attributeBase (.Name x px) name X.env (eval (.Name x px) X.env) = eval (.Name x px) X.env := by rfl)
    (hfew : ((backTo cpos (starEach [e] X.env)).all (fun x => !x.1) && (backToKw cpos (keywordEach [] X.env)).all (fun x => x.1.isSome)
      && decide (([e] : List Expr).length + ([] : List Keyword).length + (if ([] : List Keyword).isEmpty then 0 else 1) < 30)) = true := by rfl)
    (hline : (apos.endLine == cpos.line) = true := by rfl) (hplain : (backTo cpos (starEach [] X.env)).any (·.1) = false := by rfl) :
    DE X (.Call (.Attribute (.Name x px) name apos) [e] [] cpos) (mMeth1 i f m) :=
  pe_weak (pe_bm PySem.F.plainAttrs_list slot hty hm (pe_var hN hv hd hcd) (da_cons he da_nil hs1) hbase hfew hline hs1 hplain) fun σ H Q ⟨F, ρ, z, ρ', R, em, k⟩ => by
  obtain ⟨g, em⟩ := grd_inv em
  obtain ⟨a, xs0, ha0, hx0⟩ := R.isLst g
  obtain ⟨⟨y, ρ1⟩, e1, em⟩ := ob_inv em
  obtain ⟨⟨d, ρ2⟩, e2, em⟩ := ob_inv em
  simp only at em
  split at em
  · rename_i b l hi
    obtain ⟨⟨zd, zl⟩, e3, em⟩ := ob_inv em
    cases em
    refine ⟨.ref a, ha0, .inl ⟨rfl, xs0, .inl (.inl hx0)⟩, F, ρ, [y], ρ1, R, ?_, fun H1 vs s1 rs => ?_⟩
    · show bd m _ ρ = _
      unfold bd; rw [e1]; rfl
    · cases rs with
      | cons r1 rs =>
        cases rs
        obtain ⟨s2, r2⟩ := s1.rel.toV r1 e2
        obtain ⟨xs, h2, h3⟩ := s2.rel.ownLst hi ha0
        refine hf _ H1 a xs l _ d _ Q h2 h3 (.rep r2) r2 e3 fun xs' w q1 q2 => ?_
        have s3 := s2.rel.write (o' := .lst xs') (d' := .lst zl) hi ha0 q1
        exact k _ w ((s1.trans s2).trans s3) (Rep.le s3.vle q2)
  · cases em
def appendD (l : List D) (d : D) : Option (D × List D) := grd (decide (l.length < 16777216)) (some (.non, l ++ [d]))
theorem md_append : MtD1 K appendD rAppend := by
  intro G H a xs l v d z Q h1 h2 tv rv ef k
  obtain ⟨g, ef⟩ := grd_inv ef
  cases ef
  refine ⟨a, xs, v, rfl, rfl, h1, ?_, k _ _ (h2.append (.cons rv .nil)) .non⟩
  rw [h2.length, sizeLine_eq]; exact of_decide_eq_true g
def popAtD (l : List D) (d : D) : Option (D × List D) := match d with
  | .int i => grd (decide (-(2 ^ 63) ≤ i ∧ i < 2 ^ 63)) (ob (seqIndex? i l.length) fun k => ob l[k]? fun y => some (y, l.eraseIdx k))
  | _ => none
theorem RepL.erase {G : Hp} : ∀ {xs : List V} {l : List D} (k : Nat), RepL K G xs l → RepL K G (xs.eraseIdx k) (l.eraseIdx k)
  | _, _, _, .nil => .nil
  | _, _, 0, .cons _ t => t
  | _, _, k + 1, .cons h t => .cons h (RepL.erase k t)
theorem md_popAt : MtD1 K popAtD rPopAt := by
  intro G H a xs l v d z Q h1 h2 tv rv ef k
  unfold popAtD at ef
  split at ef
  · obtain ⟨g, ef⟩ := grd_inv ef
    obtain ⟨j, e1, ef⟩ := ob_inv ef
    obtain ⟨y, e2, ef⟩ := ob_inv ef
    cases ef
    have g := of_decide_eq_true g
    obtain ⟨w, q1, q2⟩ := h2.get e2
    cases rv
    exact ⟨a, xs, _, j, w, rfl, rfl, h1, g.1, g.2, by rw [h2.length]; exact e1, q1, k _ _ (h2.erase j) q2⟩
  · cases ef
def mMeth0 (i : Nat) (f : List D → Option (D × List D)) : EV := fun ρ => match ρ[i]? with
  | some (some (.o b (.lst l))) => ob (f l) fun z => some (.v z.1, ρ.set i (some (.o b (.lst z.2))))
  | _ => none
def MtD0 (K : PySem.W.Frag) (f : List D → Option (D × List D)) (r : V → List V → Hp → VK → Prop) : Prop := ∀ (G : Hp) (H : Hp) (a : Addr) (xs : List V) (l : List D) (z : D × List D) (Q : VK), H a = some (.lst xs) → RepL K G xs l → f l = some z →
  (∀ xs' w, RepL K G xs' z.2 → Rep K G w z.1 → Q w (upd H a (.lst xs'))) → r (.ref a) [] H Q
theorem de_meth0 {i : Nat} {x name : Str} {id : String} {r : V → List V → Hp → VK → Prop} {f : List D → Option (D × List D)} {px apos cpos : Pos} (slot : Slot "list" name id) (hty : typeOf (.builtin id) = pure (.type "method_descriptor")) (hm : MtR X id r) (hf : MtD0 X.K f r)
    (hN : X.N[i]? = some x) (hv : Vis X.env.scope x) (hd : (x == ("__debug__" : Str)) = false := by decide) (hcd : (x == ("__classdict__" : Str)) = false := by decide)
    (hbase : attributeBase (.Name x px) name X.env (eval (.Name x px) X.env) = eval (.Name x px) X.env := by rfl) (hline : (apos.endLine == cpos.line) = true := by rfl) :
    DE X (.Call (.Attribute (.Name x px) name apos) [] [] cpos) (mMeth0 i f) :=
  pe_weak (pe_bm0 PySem.F.plainAttrs_list slot hty hm (pe_var hN hv hd hcd) hbase hline) fun σ H Q ⟨F, ρ, z, ρ', R, em, k⟩ => by
  unfold mMeth0 at em
  split at em
  · rename_i b l hi
    obtain ⟨⟨zd, zl⟩, e3, em⟩ := ob_inv em
    cases em
    obtain ⟨a, xs, ha0, hx0⟩ := R.isLst (i := i) (by unfold isOwnL; rw [hi])
    obtain ⟨xs, h2, h3⟩ := R.ownLst hi ha0
    refine ⟨.ref a, ha0, .inl ⟨rfl, xs, .inl (.inl h2)⟩, hf _ H a xs l _ Q h2 h3 e3 fun xs' w q1 q2 => ?_⟩
    have s3 := R.write (o' := .lst xs') (d' := .lst zl) hi ha0 q1
    exact k _ w s3 (Rep.le s3.vle q2)
  · cases em
def popD (l : List D) : Option (D × List D) := ob l[l.length - 1]? fun y => some (y, l.dropLast)
theorem RepL.dropLast {G : Hp} {xs : List V} {l : List D} (r : RepL K G xs l) : RepL K G xs.dropLast l.dropLast := by
  rw [List.dropLast_eq_take, List.dropLast_eq_take, r.length]
  exact r.take _
theorem md_pop : MtD0 K popD rPop := by
  intro G H a xs l z Q h1 h2 ef k
  obtain ⟨y, e2, ef⟩ := ob_inv ef
  cases ef
  obtain ⟨w, q1, q2⟩ := h2.get e2
  exact ⟨a, xs, w, rfl, rfl, h1, by rw [h2.length]; exact q1, k _ _ h2.dropLast q2⟩
end
end DL

set_option Elab.async false
set_option linter.all false
set_option maxRecDepth 100000
namespace DL
open PySem PySem.Spec L2
set_option autoImplicit false
/-! ### a def that hands back a fresh object -/
def spF (K : PySem.W.Frag) (n : Nat) (den : List D → Option D) : Sp := fun vs H Q _ => vs.length = n ∧ ∃ F ds d, (∀ a, F a → H a ≠ none) ∧ RepL K (hid F H) vs ds ∧ den ds = some d ∧
  ∀ H' p o, Keep F H H' → Vle (hid F H) (hid (fp F p) H') → H' p = some o → HRep K (hid (fp F p) H') o d → ¬ F p → Q (.ref p) H'
def denF (n : Nat) (m : FV) : List D → Option D := fun ds => match m (env0 n ds) with
  | some (d, _) => some d
  | none => none
section
variable {K : PySem.W.Frag} {P : Program} {w : World} {mg : Str → Option Value} {base : Heap}
theorem fnF {x qual : Str} {st : Stmt} {f : Addr} {fd : FuncData} {N ps : List Str} {k : Nat} {m : FV} {e : Expr} {pos : Pos} (Fn : Fun K x qual st f fd) (S : FnScope N ps (defScope st)) (n : Nat) (hn : ps.length = n) (hbody : defBody st = [.Return (some e) pos])
    (hb : ∀ (cdv : Value) (A : Around) (outer : List Env) (s : Shared) (H : Hp) (E : XK), Room k (A.deeper (PyProof.Rows.envOfC qual (defScope st) s.heap.objs.size f cdv)) →
      DF (cxOf CX0 P w K mg base N qual (defScope st) f cdv A outer s H E).nox e m) : FnOk P w K mg base CX0 (k + 1) f fd ps (spF K n (denF N.length m)) := by
  refine Fn.ok S (fun vs H Q E h => h.1.trans hn.symm) (fun cdv A outer s H vs Q E hr h => ?_)
  obtain ⟨hv, F, ds, d, al, r, em, q⟩ := h
  refine ⟨_, by rw [hbody]; exact pss_one (ps_ret (hb cdv A outer s H E hr)), ?_⟩
  obtain ⟨R, ev⟩ := rel0 (N := N) al r
  unfold denF at em
  split at em
  · rename_i d' ρ' e1
    cases em
    refine ⟨F, _, _, _, R, e1, fun H' p o R' ep ho nf kp vl pn => ?_⟩
    have m2 : Vle (vis (fp F p) ρ' (L2.start N vs) H') (hid (fp F p) H') := Vle.sub fun b u e => by
      obtain ⟨h1, h2⟩ := hid_some e
      rw [hid_out fun z => h2 (.inl z)]
      exact h1
    rw [ev] at vl
    exact q H' p o kp (vl.trans m2) ep (HRep.le m2 ho) nf
  · cases em
variable {X : Cx}
def mCallF (den : List D → Option D) (ms : LV) : FV := bd ms fun xs ρ => ob (toVL ρ xs) fun p => ob (den p.1) fun d => some (d, p.2)
theorem df_call {k : Nat} {f : Addr} {fd : FuncData} {ps : List Str} {den : List D → Option D} {x : Str} {p pos : Pos} {e : Expr} {es : List Expr} {ms : LV} {n : Nat} (F : FnOk X.prog X.w X.K X.mg X.base CX0 k f fd ps (spF X.K n den)) (hr : Room k X.A) (hg : Gl X x) (hm : X.mg x = some (.ref f)) (hk : PySem.W.keepIn X.K (.ref f) = true) (hb : Binds X.K fd ps []) (ha : DA X (e :: es) ms) (hl : Len n ms)
    (hdb : (x == ("__debug__" : Str)) = false := by decide) (he : starEach (e :: es) X.env = (false, eval e X.env) :: starEach es X.env := by rfl) (hpl : (backTo pos (starEach es X.env)).any (·.1) = false := by rfl) :
    DF X (.Call (.Name x p) (e :: es) [] pos) (mCallF den ms) := pe_weak (pe_call F hr hg hm hk hb .nil pass0 ha hdb he hpl) fun σ H Q ⟨F, ρ, z, ρ', R, em, k⟩ => by
  obtain ⟨xs, ρ1, e1, em⟩ := bd_inv em
  obtain ⟨⟨ds, ρ2⟩, e2, em⟩ := ob_inv em
  obtain ⟨d, e3, em⟩ := ob_inv em
  cases em
  refine ⟨F, ρ, xs, ρ1, R, e1, fun H1 vs s1 r1 => ?_⟩
  obtain ⟨s2, r2⟩ := s1.rel.toVL r1 e2
  have s12 := s1.trans s2
  rw [List.append_nil]
  refine ⟨by rw [r2.length, ← toVL_len e2]; exact hl _ _ _ e1, fo F ρ2 σ, ds, _, fun a ha => s2.rel.foNone ha, r2, e3, fun H' p o kp vl ep ho nf => ?_⟩
  have ev : hid (fp (fo F ρ2 σ) p) H' = vis (fp F p) ρ2 σ H' := by
    funext c
    by_cases q : fp (fo F ρ2 σ) p c
    · rw [hid_in q, vis_in (q.elim (fun z => .inl (.inl z)) fun z => z.elim (fun z => .inl (.inr z)) .inr)]
    · rw [hid_out q, vis_out fun z => q (z.elim (fun z => z.elim .inl fun z => .inr (.inl z)) fun z => .inr (.inr z))]
  rw [ev] at vl ho
  have R3 : Rel X.K (fp F p) ρ2 σ H' := s2.rel.move vl.toVleW (fun a h => kp a (.inr h)) (fun a h hf z => z.elim (fun e => nf (by rw [← e]; exact .inr h)) hf) fun a h => by
    rcases h with h | h
    · rw [h, ep]; intro z; cases z
    · rw [kp a (.inl h)]; exact s2.rel.alo a h
  exact k H' p o R3 ep ho (fun z => nf (.inl z)) (s12.keep.trans fun a h => kp a (.inl h)) (s12.vle.trans vl) s12.pin
end
/-- the law's own head -/
theorem spLaw {K : PySem.W.Frag} {den : List D → Option D} {H : Hp} {a : Addr} {ns : List Int} (h : den [.scr (ns.map .int)] = some (.bl true)) (hS : SqL K H a (ns.map V.int)) : spD K 1 den [.ref a] H (fun v _ => v = .bl true) fun _ _ _ => False := by
  refine ⟨rfl, fun _ => False, _, _, fun _ z => z.elim, .cons (.scr ?_ (.ints ns)) .nil, h, fun H' v _ _ r => by cases r; rfl⟩
  have e : hid (fun _ => False) H = H := by funext c; rw [hid_out id]
  rw [e]; exact hS
end DL

set_option Elab.async false
set_option linter.all false
set_option maxRecDepth 100000
namespace DL
open PySem PySem.Spec L2
set_option autoImplicit false
theorem hu65 {A : Around} {k : Nat} (r : Room k A) : A.units + 65 < cLine := by have := r.un; omega
section
variable {X : Cx} {K : PySem.W.Frag} {tg : Expr}
/-- a list or a tuple, settled -/
def iSq (m : EV) : LI := fun ρ => ob (m ρ) fun p => ob (toV p.2 p.1) fun q => match q.1 with
  | .lst ds => some (ds, q.2)
  | .tup ds => some (ds, q.2)
  | _ => none
theorem pi_or {e : Expr} {t t' : TI} (h : PI X tg e t) (h' : PI X tg e t') : PI X tg e (fun σ H R => t σ H R ∨ t' σ H R) := ⟨fun pins s σ H R I q => q.elim (h.run pins s σ H R I) (h'.run pins s σ H R I)⟩
theorem di_seq {e : Expr} {m : EV} (h : DE X e m) : DI X tg e (iSq m) := pi_weak (pi_or (di_list h) (di_tup h)) fun σ H Q ⟨F, ρ, items, ρ', R, em, k⟩ => by
  obtain ⟨⟨x, ρ1⟩, e1, em⟩ := ob_inv em
  obtain ⟨⟨d, ρ2⟩, e2, em⟩ := ob_inv em
  simp only at em
  split at em
  · cases em
    refine .inl ⟨F, ρ, _, _, R, ?_, k⟩
    show ob (m ρ) _ = _
    rw [e1]; show ob (toV ρ1 x) _ = _
    rw [e2]; rfl
  · cases em
    refine .inr ⟨F, ρ, _, _, R, ?_, k⟩
    show ob (m ρ) _ = _
    rw [e1]; show ob (toV ρ1 x) _ = _
    rw [e2]; rfl
  · cases em
/-- a slice of either, as data -/
def mSl (m : EV) (ml mh : OV) : EV := bd m fun x => bd ml fun lo => bd mh fun hi ρ => ob (deref ρ x) fun d => match d with
  | .lst l => some (.v (.lst (cutD l lo hi)), ρ)
  | .tup l => some (.v (.tup (cutD l lo hi)), ρ)
  | _ => none
theorem de_sl {e : Expr} {m : EV} {lo hi : Option Expr} {ml mh : OV} {p2 pos : Pos} (he : DE X e m) (hl : DO X lo ml) (hh : DO X hi mh) : DE X (.Subscript e (.Slice lo hi none p2) pos) (mSl m ml mh) :=
  pe_weak (pe_or' (df_de (df_sl he hl hh)) (de_slT he hl hh)) fun σ H Q ⟨F, ρ, z, ρ', R, em, k⟩ => by
  obtain ⟨y1, ρ1, e1, em⟩ := bd_inv em
  obtain ⟨l, ρ2, e2, em⟩ := bd_inv em
  obtain ⟨h, ρ3, e3, em⟩ := bd_inv em
  obtain ⟨d, e4, em⟩ := ob_inv em
  split at em
  · cases em
    refine .inl ⟨F, ρ, _, _, R, ?_, k⟩
    unfold mFr mSlL
    simp only [bd, e1, e2, e3, ob, e4]
  · cases em
    refine .inr ⟨F, ρ, _, _, R, ?_, k⟩
    unfold mSlT
    simp only [bd, e1, e2, e3, ob, e4]
  · cases em
/-! a, b, c = x, y, z -/
def sPar3 (i j l : Nat) (m n o : EV) : SVt := fun ρ => ob (lCons m (lCons n (lCons o lNil)) ρ) fun p => ob (toVL p.2 p.1) fun q => match q.1 with
  | [d, e, f] => grd (canSet q.2 i && canSet q.2 j && canSet q.2 l && decide (i ≠ j) && decide (i ≠ l) && decide (j ≠ l)) (some (.nx (((q.2.set i (some (.v d))).set j (some (.v e))).set l (some (.v f)))))
  | _ => none
theorem ds_par3 {i j l : Nat} {x y z : Str} {a b c : Expr} {m n o : EV} {px py pz pt pos : Pos} {kt k2 pt2} (hc : X.calm = true) (hN : X.N.Nodup) (hi : X.N[i]? = some x) (hj : X.N[j]? = some y) (hl : X.N[l]? = some z) (hij : i ≠ j) (hil : i ≠ l) (hjl : j ≠ l)
    (hx : X.env.scope.names.lookup x = some .local) (hy : X.env.scope.names.lookup y = some .local) (hz : X.env.scope.names.lookup z = some .local) (ha : DE X a m) (hb : DE X b n) (hcc : DE X c o)
    (hw : swappedStores [.Tuple [.Name x px, .Name y py, .Name z pz] kt pt] (.Tuple [a, b, c] k2 pt2) X.env = pure (some [x, y, z]))
    (hs : swapsWithSole [.Tuple [.Name x px, .Name y py, .Name z pz] kt pt] (.Tuple [a, b, c] k2 pt2) pos.line X.env = pure false := by rfl)
    (h1 : starEach [a, b, c] X.env = (false, eval a X.env) :: starEach [b, c] X.env := by rfl) (h2 : starEach [b, c] X.env = (false, eval b X.env) :: starEach [c] X.env := by rfl) (h3 : starEach [c] X.env = (false, eval c X.env) :: starEach [] X.env := by rfl) :
    DS X (.Assign [.Tuple [.Name x px, .Name y py, .Name z pz] kt pt] (.Tuple [a, b, c] k2 pt2) pos) (sPar3 i j l m n o) := ps_weak (ps_par3 hc hN hi hj hl hij hil hjl hx hy hz (da_cons ha (da_cons hb (da_cons hcc da_nil h3) h2) h1) hw hs) fun D σ H ⟨F, ρ, r, R, em, k⟩ => by
  obtain ⟨⟨xs, ρ1⟩, e1, em⟩ := ob_inv em
  obtain ⟨⟨ds, ρ2⟩, e2, em⟩ := ob_inv em
  simp only at em
  split at em
  · rename_i d e f
    obtain ⟨g, em⟩ := grd_inv em
    cases em
    simp only [Bool.and_eq_true] at g
    obtain ⟨⟨⟨⟨⟨g1, g2⟩, g3⟩, g4⟩, g5⟩, g6⟩ := g
    refine ⟨F, ρ, xs, ρ1, R, e1, fun H' vs s rv => ?_⟩
    obtain ⟨s2, r2⟩ := s.rel.toVL rv e2
    cases r2 with
    | cons q1 q2 =>
      cases q2 with
      | cons q2 q3 =>
        cases q3 with
        | cons q3 q4 =>
          cases q4
          refine ⟨_, _, _, rfl, ?_⟩
          have s3 := s2.rel.setV (canSet_of g1).1 (canSet_of g1).2 q1
          have s4 := s3.rel.setV (i := j) (by rw [List.length_set]; exact (canSet_of g2).1) (by rw [pinned_set (of_decide_eq_true g4)]; exact (canSet_of g2).2) (Rep.le s3.vle q2)
          have s5 := s4.rel.setV (i := l) (by rw [List.length_set, List.length_set]; exact (canSet_of g3).1) (by rw [pinned_set (of_decide_eq_true g6), pinned_set (of_decide_eq_true g5)]; exact (canSet_of g3).2) (Rep.le s4.vle (Rep.le s3.vle q3))
          exact k _ H' ((((s.trans s2).trans s3).trans s4).trans s5)
  · cases em
/-! name = [..] on one line, the name a local -/
theorem ds_setLc {i : Nat} {y : Str} {py : Pos} {elt iter : Expr} {ifs : List Expr} {scope : Scope} {own : List (Str × Nat)} {pos spos : Pos} {it : LI} {g : GV} {t : TV} {e : EV} (hc : X.calm = true)
    (hsw : swapsWith (.ListComp elt [⟨tg, iter, ifs, 0⟩] scope pos) (some (.Name y py)) spos.line X.env = pure true) (own' : True := trivial) (hN : X.N.Nodup) (hy : X.N[i]? = some y) (hyl : X.env.scope.names.lookup y = some .local) (hi : DI X tg iter it) (ok : BlkOk X.N X.env.scope scope own)
    (hg : ∀ (s : Shared) (H : Hp) (C : Addr) (cl : List (Str × Addr)) (fp : List Addr), DG (X.blk s H scope (compEnvC scope cl C X.env) fp) tg (own.map (·.2)) g) (ht : ∀ (s : Shared) (H : Hp) (C : Addr) (cl : List (Str × Addr)) (fp : List Addr), DPs (X.blk s H scope (compEnvC scope cl C X.env) fp) ifs t)
    (he : ∀ (s : Shared) (H : Hp) (C : Addr) (cl : List (Str × Addr)) (fp : List Addr), DE (X.blk s H scope (compEnvC scope cl C X.env) fp) elt e) (hs : ∀ x, foldedSetIterable iter X.env x = pure x := by intro _; rfl) :
    DS X (.Assign [.Name y py] (.ListComp elt [⟨tg, iter, ifs, 0⟩] scope pos) spos) (sSet (gVar i) (mFr (mLc it g t e (own.map (·.2))))) :=
  ps_weak (@ps_setLc X i y py elt tg iter ifs scope own pos spos (tDI X.K it) (tDG X.K (own.map fun x : Str × Nat => x.2) g) (tDT X.K t) (tD X.K e) hc hN hy hyl hsw hi ok hg ht he hs) fun D σ H h => by
    have h2 := tD_mono (setD (ws := [i]) h) fun v H q => gName_of q
    obtain ⟨F, ρ, x, ρ', R, em, k⟩ := h2
    obtain ⟨d, ρ1, e1, e2⟩ := bd_inv em
    cases e2
    exact lcD ⟨F, ρ, d, ρ', R, e1, fun H' p o R' ep ho nf kp vl pn => k H' _ ⟨R'.show, kp, vl.trans vle_unfp, pn⟩ (R'.shown nf ep ho)⟩
theorem ds_setLcF {i : Nat} {y : Str} {py : Pos} {elt iter : Expr} {ifs : List Expr} {scope : Scope} {own : List (Str × Nat)} {pos spos : Pos} {it : LI} {g : GV} {t : TV} {e : EV} (hc : X.calm = true)
    (hsw : swapsWith (.ListComp elt [⟨tg, iter, ifs, 0⟩] scope pos) (some (.Name y py)) spos.line X.env = pure true) (own' : True := trivial) (hN : X.N.Nodup) (hy : X.N[i]? = some y) (hyl : X.env.scope.names.lookup y = some .local) (hi : DI X tg iter it) (ok : BlkOk X.N X.env.scope scope own)
    (hg : ∀ (s : Shared) (H : Hp) (C : Addr) (cl : List (Str × Addr)) (fp : List Addr), DG (X.blk s H scope (compEnvC scope cl C X.env) fp) tg (own.map (·.2)) g) (ht : ∀ (s : Shared) (H : Hp) (C : Addr) (cl : List (Str × Addr)) (fp : List Addr), DPs (X.blk s H scope (compEnvC scope cl C X.env) fp) ifs t)
    (he : ∀ (s : Shared) (H : Hp) (C : Addr) (cl : List (Str × Addr)) (fp : List Addr), DE (X.blk s H scope (compEnvC scope cl C X.env) fp) elt e) (hs : ∀ x, foldedSetIterable iter X.env x = pure x := by intro _; rfl) :
    DS X (.Assign [.Name y py] (.ListComp elt [⟨tg, iter, ifs, 0⟩] scope pos) spos) (sSetF i (mLc it g t e (own.map (·.2)))) :=
  ps_weak (@ps_setLc X i y py elt tg iter ifs scope own pos spos (tDI X.K it) (tDG X.K (own.map fun x : Str × Nat => x.2) g) (tDT X.K t) (tD X.K e) hc hN hy hyl hsw hi ok hg ht he hs) fun D σ H h => lcD (setFD h)
end
end DL

set_option Elab.async false
set_option linter.all false
set_option maxRecDepth 100000
namespace DL
open PySem PySem.Spec L2 PyProof.Rows
set_option autoImplicit false
/-! ### enumerate of a tuple -/
section
variable {prog : Program} {w : World} {A : Around} {E : Value → Shared → Prop} {s : Shared}
set_option maxHeartbeats 1000000 in
theorem enumB_new {v : Value} {ob : Obj} {G : Heap → Prop} (B : Begins v ob G) :
    Meets (Builtin.«enumerate.__new__» ⟨[.type "enumerate", v], []⟩) (fun _ R z => G z.heap ∧ R (.ok (.ret (.ref (z.heap.push ob).objs.size)))
      { z with heap := (z.heap.push ob).push { cls := .type "enumerate", data := .fields #[.none, .bool false, .ref z.heap.objs.size, rawInt 0, .none, .none] } }) :=
  .of_wp fun prog w A R z hz => by
    obtain ⟨hp, gg, dd, tt, oo⟩ := z
    obtain ⟨g1, hz⟩ := hz
    have hsb := sub_enumerate
    have pit : ∀ {A2 : Around} {E2 Q2 : Value → Shared → Prop}, Q2 (.ref hp.objs.size) ⟨hp.push ob, gg, dd, tt, oo⟩ → wpAny (model prog w) A2 (pyIter v) Q2 E2 ⟨hp, gg, dd, tt, oo⟩ := fun q => B.iter prog w _ _ ⟨hp, gg, dd, tt, oo⟩ _ g1 q
    wp_walk using pit
    refine wpAny_stack_any fun stk => wpAny_pure ?_
    split
    · rename_i cl _ _ _ _ _
      cases (cl == Value.type "enumerate") <;> (wp_walk using pit; exact ⟨_, rfl, hz⟩)
    · wp_walk using pit
      exact ⟨_, rfl, hz⟩
theorem call_enumB {v : Value} {ob : Obj} {G : Heap → Prop} {Q : Value → Shared → Prop} (B : Begins v ob G) (g1 : G s.heap)
    (k : ∀ h', IsEnum h' (s.heap.objs.size + 1) s.heap.objs.size 0 .none → h'.get? s.heap.objs.size = some ob → (∀ b o, s.heap.get? b = some o → h'.get? b = some o) → Q (.ref (s.heap.objs.size + 1)) { s with heap := h' }) :
    wpAny (model prog w) A (call (.type "enumerate") [v]) Q E s := by
  refine callType_new F.called_enumerate (by decide) (F.typeCall_enumerate_1 _) (F.newCall_enumerate_1 _) (fun x => F.args_object_init_2 x _) F.entry_enumerate_new (enumB_new B) ⟨g1, ?_⟩
  have z1 : (s.heap.push ob).objs.size = s.heap.objs.size + 1 := Heap.size_push ..
  show _ ∧ _
  rw [z1]
  have ie : IsEnum ((s.heap.push ob).push { cls := .type "enumerate", data := .fields #[.none, .bool false, .ref s.heap.objs.size, rawInt 0, .none, .none] }) (s.heap.objs.size + 1) s.heap.objs.size 0 .none := by
    have t := Heap.get?_push_size (s.heap.push ob) (o := { cls := .type "enumerate", data := .fields #[.none, .bool false, .ref s.heap.objs.size, rawInt 0, .none, .none] }) rfl
    rw [z1] at t; exact t
  exact ⟨⟨_, ie, rfl⟩, k _ ie (Heap.get?_push_of_some _ (Heap.get?_push_size _ B.free)) fun b o x => Heap.get?_push_of_some _ (Heap.get?_push_of_some _ x)⟩
end
/-- the tuple at a, each item in a new pair -/
def IteT (K : PySem.W.Frag) (a : Addr) : It :=
  ⟨fun i H => ∃ (xs : List V) (x : V), SqT K H a xs ∧ xs[i]? = some x, fun i H v H' => ∃ T x, v = .ref T ∧ H T = none ∧ H' = upd H T (.tup [.int (i : Nat), x]) ∧ ∀ xs, SqT K H a xs → xs[i]? = some x, fun i H => ∃ xs : List V, SqT K H a xs ∧ xs.length ≤ i⟩
theorem turn_enumT {P : Program} {w : World} {K : PySem.W.Frag} {elts : List Expr} {kk : Nat} {tpos : Pos} (a e it : Addr) :
    Turn P w K (.Tuple elts kk tpos) (IteT K a) [e, it] e (fun i h => (∃ old, IsEnum h e it ((i : Nat) : Int) old) ∧ h.IsTupleIter it a i ∧ e ≠ it ∧ a ≠ e ∧ a ≠ it) where
  mem := by simp
  obj := fun i h st b hb => by
    obtain ⟨⟨old, ie⟩, ⟨ob, o1, o2, o3⟩, _⟩ := st
    rcases (show b = e ∨ b = it by simpa using hb) with rfl | rfl
    · exact ⟨_, ie, fun v q => nomatch q⟩
    · exact ⟨ob, o1, fun v q => by rw [o3] at q; cases q⟩
  keep := fun i h h' st k => by
    obtain ⟨⟨old, ie⟩, ti, r⟩ := st
    exact ⟨⟨old, k e (by simp) _ ie⟩, ti.at fun o q => k it (by simp) o q, r⟩
  item := by
    intro X hP hw hK hc i pins s σ H E I hf st hg
    subst hP hw hK
    obtain ⟨⟨old, ie⟩, ti, ne, nae, nai⟩ := st
    obtain ⟨xs, x, sq, gx⟩ := hg
    obtain ⟨its, rv, pt, _⟩ := I.tuple sq
    obtain ⟨u, gu, ru⟩ := rv.get gx
    have ltE : e < s.heap.objs.size := Heap.lt_size ie
    have ltI : it < s.heap.objs.size := by obtain ⟨_, q, _⟩ := ti; exact Heap.lt_size q
    have lti : i < its.toArray.size := by
      have := List.getElem?_eq_some_iff.mp gu
      obtain ⟨q, _⟩ := this
      simpa using q
    have D : Draws X.prog X.w X.A.in1 it [it, a] its.toArray.size _ _ := Draws.tuple (A := X.A.in1) (I.ok.hd hc) it a nai its.toArray
    refine wpAny_pyNext_enum_itemD D ie ⟨ti, pt⟩ lti ne (by simp [ne, Ne.symm nae]) fun y h' tk py ho st' hT _ hk => ?_
    have ey : y = u := by
      have q : its.toArray[i]? = some y := py
      rw [List.getElem?_toArray, gu] at q
      cases q; rfl
    subst ey
    refine ⟨_, rfl, wpAny_letOwnedTupleGo_enum (s := { s with heap := h', toks := tk + 1 }) ho fun h2 ie2 sb => ?_⟩
    have hT2 : h2.get? s.heap.objs.size = some { cls := .type "tuple", data := .seq #[.int i tk, y] } := (sb.2 _ (Nat.ne_of_gt ltE)).trans hT
    have new : ObjOk X.prog X.w (upd H s.heap.objs.size (.tup [.int (i : Nat), x])) h2 s.heap.objs.size (.tup [.int (i : Nat), x]) := ⟨by show 2 ≤ sizeLine; decide, [.int i tk, y], .cons ⟨_, rfl⟩ (.cons ru .nil), ⟨_, hT2, rfl, _, rfl⟩⟩
    have I1 : Inv X pins σ (upd H s.heap.objs.size (.tup [.int (i : Nat), x])) { s with heap := h2, toks := tk + 1 } := I.turnedNew (ch := [e, it]) (fun b ob hb q => (sb.2 b (fun z => hb (by simp [z]))).trans (hk b ob (fun z => hb (by simp [z])) (fun z => hb (by simp [z])) q)) hf (Nat.le_refl _) new
    refine ⟨.ref s.heap.objs.size, _, I1, rfl, ⟨_, x, rfl, I.hok.fresh (Nat.le_refl _), rfl, fun ys hy => by rw [I.tuple_inj hy sq]; exact gx⟩, ⟨⟨y, ?_⟩, st'.1.at fun o q => (sb.2 it (Ne.symm ne)).trans q, ne, nae, nai⟩, fun b hb => ?_⟩
    · rw [show ((i + 1 : Nat) : Int) = (i : Int) + 1 by omega]; exact ie2
    · have lb : b < s.heap.objs.size := by
        rcases (show b = e ∨ b = it by simpa using hb) with rfl | rfl <;> assumption
      rw [upd_ne (Nat.ne_of_lt lb)]
      exact (hf b hb).1
  done := by
    intro X hP hw hK hc i pins s σ H E I hf st hg
    subst hP hw hK
    obtain ⟨⟨old, ie⟩, ti, ne, nae, nai⟩ := st
    obtain ⟨xs, sq, le⟩ := hg
    obtain ⟨its, rv, pt, _⟩ := I.tuple sq
    obtain ⟨f0, f1, f2, f3, f4, f5⟩ := hf it (by simp)
    have hl := rv.length
    have D : Draws X.prog X.w X.A.in1 it [it, a] i (fun _ _ => True) (fun j h => j = i ∧ h.IsTupleIter it a i ∧ h.IsTuple a its.toArray) := {
      live := fun _ _ z => let ⟨o, ho, _⟩ := z.2.1; ⟨o, ho⟩
      frame := fun _ _ _ z hk => ⟨z.1, z.2.1.at fun o q => hk it (by simp) o q, z.2.2.at fun o q => hk a (by simp) o q⟩
      item := fun j z Q' E' hj z' hQ => absurd z'.1 (Nat.ne_of_lt hj)
      done := fun z Q' E' z' hE => wpAny_nextOf_tuple_end (I.ok.hd hc) z'.2.1 z'.2.2 (by simp; omega) hE }
    exact wpAny_pyNext_enum_endD D ie ⟨rfl, ti, pt⟩ fun h' eb => ⟨rfl, I.turned (t' := s.toks) (fun b o hb q => eb b o hb q) f0 f1 f3 f4 f5⟩
  self := fun A i s Q E st h => let ⟨⟨_, ie⟩, _⟩ := st; wpAny_pyIter_enum ie h

def iEnumT (K : PySem.W.Frag) (ta : TA) : TI := fun σ H R => ta σ H fun vs H1 => ∃ a xs, vs = [.ref a] ∧ SqT K H1 a xs ∧ R (IteT K a) H1
theorem pi_enumT {X : Cx} {e : Expr} {ta : TA} {p pos tpos : Pos} {elts : List Expr} {kk : Nat} (hg : Gl X "enumerate") (hm : X.mg "enumerate" = none) (ha : PA X [e] ta) (hs : starEach [e] X.env = [(false, eval e X.env)] := by rfl) :
    PI X (.Tuple elts kk tpos) (.Call (.Name "enumerate" p) [e] [] pos) (iEnumT X.K ta) := by
  refine ⟨fun pins s σ H R I h => Call_ (ld_blt I hg hm boot_enumerate (callWith_type1 (thn (ha.run pos pins s σ H _ I h) fun us s1 ⟨vs, H1, I1, r1, q1⟩ => ?_) hs rfl))⟩
  obtain ⟨a, xs, rfl, sq, q⟩ := q1
  cases r1 with
  | cons r rr =>
    cases rr
    cases r
    obtain ⟨its, rv, pt, _⟩ := I1.tuple sq
    have la : a < s1.heap.objs.size := by obtain ⟨o, ho, _⟩ := id pt; exact Heap.lt_size ho
    refine call_enumB (begins_tuple a its.toArray) pt fun h' ie gi hk => wpAny_pyIter_enum ie ?_
    have I2 : Inv X pins σ H1 { s1 with heap := h' } := I1.kept (t' := s1.toks) hk
    refine ⟨s1.heap.objs.size + 1, [s1.heap.objs.size + 1, s1.heap.objs.size], _, _, H1, rfl, I2, turn_enumT a (s1.heap.objs.size + 1) s1.heap.objs.size, ⟨⟨.none, ie⟩, ⟨_, gi, rfl, rfl⟩, Nat.succ_ne_self _, Nat.ne_of_lt (Nat.lt_succ_of_lt la), Nat.ne_of_lt la⟩, fun b hb => ?_, q⟩
    have lb : s1.heap.objs.size ≤ b := by
      rcases (show b = s1.heap.objs.size + 1 ∨ b = s1.heap.objs.size by simpa using hb) with rfl | rfl
      · exact Nat.le_add_right _ _
      · exact Nat.le_refl _
    exact I1.fpOk lb (I1.hok.fresh lb)
end DL

set_option Elab.async false
set_option linter.all false
set_option maxRecDepth 100000
namespace DL
open PySem PySem.Spec L2 PyProof.Rows
set_option autoImplicit false
/-! ### sorted of whole numbers: of a list, of a tuple -/
open SrtO in
section
variable {prog : Program} {w : World} {A : Around} {E : Value → Shared → Prop} {s : Shared}
theorem collect_tp {l : Addr} {vs : List Value} {Q : List Value → Shared → Prop} (tl : s.heap.IsTuple l vs.toArray) (lz : vs.length ≤ sizeLine)
    (k : Q vs { s with heap := (s.heap.push (seqObj "list" #[] 0)).update s.heap.objs.size (Obj.mapSeq (· ++ vs.toArray)) }) : wpAny (model prog w) A (collect (.ref l)) Q E s := by
  obtain ⟨ob, ho, hc, nn, hd⟩ := id tl
  unfold collect
  refine wpAny_bind (wpAny_runValue (codeAny_builtin entry_proto_collect' ?_))
  show wpAny (model prog w) _ (do again (.builtin "list.__iadd__" ⟨[← newList [], .ref l], []⟩)) _ _ s
  refine wpAny_bind (wpAny_newList (wpAny_pure ⟨Code.quiet_builtin _ (by decide +kernel), codeAny_builtin entry_list_iadd' ?_⟩))
  show wpAny (model prog w) _ (Builtin.List.listExtendWith (.ref s.heap.objs.size) (.ref l) (.ref s.heap.objs.size)) _ _ { s with heap := s.heap.push (seqObj "list" #[] 0) }
  unfold Builtin.List.listExtendWith
  have ho2 : (s.heap.push (seqObj "list" #[] 0)).get? l = some ob := Heap.get?_push_of_some _ ho
  refine wpAny_bind (wpAny_typeOf (T := "tuple") ⟨ob, ho2, hc⟩ ?_)
  rw [if_pos (by rw [show (Value.type "tuple" == Value.type "tuple") = true from rfl]; simp)]
  refine wpAny_bind (listItems_at ho2 hd (wpAny_bind (listItems_at (xs := #[]) (n := 0) (Heap.get?_push_size _ rfl) rfl ?_)))
  rw [if_neg (by simp)]
  refine wpAny_bind (listUpdate_at (xs := #[]) (n := 0) (Heap.get?_push_size _ rfl) rfl (wpAny_pure ?_) (Nat.zero_le _) (by show (#[] ++ vs.toArray).size ≤ sizeLine + 1; simp only [Array.size_append, List.size_toArray, List.length_nil]; omega))
  show wpAny (model prog w) A (do let o ← load s.heap.objs.size; match o.data with | .seq xs _ => pure xs.toList | _ => unsupported "internal:collect") Q E { s with heap := (s.heap.push (seqObj "list" #[] 0)).update s.heap.objs.size (Obj.mapSeq (· ++ vs.toArray)) }
  refine wpAny_bind (wpAny_load (get?_update_seq (Heap.get?_push_size _ rfl) _) ?_)
  show wpAny (model prog w) A (pure ((#[] : Array Value) ++ vs.toArray).toList) Q E { s with heap := (s.heap.push (seqObj "list" #[] 0)).update s.heap.objs.size (Obj.mapSeq (· ++ vs.toArray)) }
  rw [show ((#[] : Array Value) ++ vs.toArray).toList = vs by simp]
  exact wpAny_pure k
theorem sorted_tp {l : Addr} {vs : List Value} {ltv : Value → Value → Bool} {Q : Value → Shared → Prop} (O : Swo ltv) (tl : s.heap.IsTuple l vs.toArray) (lz : vs.length ≤ sizeLine)
    (hS : 2 ≤ vs.length → ∀ (h₁ : Heap) (a : Addr), h₁.get? a = some (seqObj "list" vs.toArray 0) → (∀ b o, s.heap.get? b = some o → b ≠ a ∧ h₁.get? b = some o) → SortableO prog w A.in1.in1 { s with heap := h₁ } a vs ltv)
    (k : ∀ out : List Value, Srtd ltv out → Stb ltv out vs → Q (.ref (s.heap.objs.size + 1)) { s with heap := sortedAll s.heap vs out.toArray }) : wpAny (model prog w) A (call (.builtin "sorted") [.ref l]) Q E s := by
  refine Calls.call_function_entry kind_sorted plain_sorted entry_sorted (args_sorted1 _) ?_
  unfold Builtin.«sorted»
  refine wpAny_bind (m := checkCount "sorted" 1 1 _) (wpAny_pure (wpAny_bind (collect_tp tl lz (wpAny_bind (wpAny_newList ?_ lz)))))
  have e1 : ((s.heap.push (seqObj "list" #[] 0)).update s.heap.objs.size (Obj.mapSeq (· ++ vs.toArray))).objs.size = s.heap.objs.size + 1 := by rw [Heap.size_update, size_push']
  have e2 : (((s.heap.push (seqObj "list" #[] 0)).update s.heap.objs.size (Obj.mapSeq (· ++ vs.toArray))).push (seqObj "list" vs.toArray 0)).get? (s.heap.objs.size + 1) = some (seqObj "list" vs.toArray 0) := by rw [← e1]; exact Heap.get?_push_size _ rfl
  have kp : ∀ b o, s.heap.get? b = some o → b ≠ s.heap.objs.size + 1 ∧ (((s.heap.push (seqObj "list" #[] 0)).update s.heap.objs.size (Obj.mapSeq (· ++ vs.toArray))).push (seqObj "list" vs.toArray 0)).get? b = some o := fun b o q => by
    have lt : b < s.heap.objs.size := Heap.lt_size q
    exact ⟨Nat.ne_of_lt (Nat.lt_succ_of_lt lt), Heap.get?_push_of_some _ (by rw [Heap.get?_update_ne _ _ _ _ (Nat.ne_of_lt lt)]; exact Heap.get?_push_of_some _ q)⟩
  show wpAny (model prog w) _ _ _ _ { s with heap := ((s.heap.push (seqObj "list" #[] 0)).update s.heap.objs.size (Obj.mapSeq (· ++ vs.toArray))).push (seqObj "list" vs.toArray 0) }
  rw [e1]
  exact wpAny_bind (wpAny_holding (wpAny_call_entry slot_list_sort ⟨_, e2, rfl⟩ entry_list_sort (list_sort_ord O e2 lz (fun h2 => hS h2 _ _ e2 kp) fun out hs hb => ⟨_, rfl, wpAny_pure ⟨_, rfl, k out hs hb⟩⟩) (args_list_sort _)))
end
def rSortedIT (K : PySem.W.Frag) : List V → Hp → VK → Prop := fun vs H Q => ∃ (a : Addr) (ns : List Int), vs = [V.ref a] ∧ (SqL K H a (ns.map V.int) ∨ SqT K H a (ns.map V.int)) ∧ ∀ (ns' : List Int) (p : Addr), ns'.Perm ns → ns'.Pairwise (· ≤ ·) → H p = none → Q (.ref p) (upd H p (.lst (ns'.map V.int)))
theorem cr_sortedIT {X : Cx} : CallR X (.builtin "sorted") (rSortedIT X.K) := by
  intro pins s σ H vs us Q I r h
  obtain ⟨a, ns, rfl, hs, q⟩ := h
  rcases hs with hs | hs
  · exact cr_sortedI pins s σ H _ us Q I r ⟨a, ns, rfl, hs, q⟩
  · obtain ⟨its, rv, tl, lz⟩ := I.tuple hs
    rw [Vals.ref1 r]
    have ii := rv.ints
    refine sorted_tp SrtO.swo_int (show s.heap.IsTuple a its.toArray from tl) (by rw [← rv.length]; exact lz) (fun h2 h₁ a' _ _ => SrtO.ints_sortable ii h2) fun out g1 g2 => ?_
    obtain ⟨k1, k2, k3⟩ := SrtO.ints_out ii g1 g2
    obtain ⟨ep, he'⟩ := PyProof.Rows.sortedAll_at s.heap its out.toArray
    have hn : ((out.map SrtO.iv).map V.int).length ≤ sizeLine := by rw [List.length_map, k2.length_eq]; rw [List.length_map] at lz; exact lz
    exact ⟨.ref _, upd H (s.heap.objs.size + 1) (.lst ((out.map SrtO.iv).map V.int)), I.laid (t' := s.toks) (fun _ _ => PyProof.Rows.sortedAll_old) (Nat.le_succ _) ⟨hn, out, ep, vals_of_ints k1, he'⟩, rfl, q _ _ k2 k3 (I.hok.fresh (Nat.le_succ _))⟩
/-- insertion -/
def ins (x : Int) : List Int → List Int
  | [] => [x]
  | y :: l => if x ≤ y then x :: y :: l else y :: ins x l
def isort : List Int → List Int
  | [] => []
  | x :: l => ins x (isort l)
theorem ins_perm (x : Int) : ∀ l, (ins x l).Perm (x :: l)
  | [] => .refl _
  | y :: l => by
    unfold ins
    split
    · exact .refl _
    · exact ((ins_perm x l).cons y).trans (.swap x y l)
theorem isort_perm : ∀ l, (isort l).Perm l
  | [] => .refl _
  | x :: l => (ins_perm x _).trans ((isort_perm l).cons x)
theorem ins_sorted (x : Int) : ∀ {l : List Int}, l.Pairwise (· ≤ ·) → (ins x l).Pairwise (· ≤ ·)
  | [], _ => List.pairwise_singleton _ _
  | y :: l, h => by
    unfold ins
    have h' := List.pairwise_cons.mp h
    split
    · rename_i c
      exact List.pairwise_cons.mpr ⟨fun z hz => by
        rcases List.mem_cons.mp hz with rfl | hz
        · exact c
        · exact Int.le_trans c (h'.1 z hz), h⟩
    · rename_i c
      refine List.pairwise_cons.mpr ⟨fun z hz => ?_, ins_sorted x h'.2⟩
      rcases List.mem_cons.mp ((ins_perm x l).mem_iff.mp hz) with rfl | hz
      · omega
      · exact h'.1 z hz
theorem isort_sorted : ∀ l, (isort l).Pairwise (· ≤ ·)
  | [] => .nil
  | x :: l => ins_sorted x (isort_sorted l)
theorem sorted_unique : ∀ {l l' : List Int}, l.Perm l' → l.Pairwise (· ≤ ·) → l'.Pairwise (· ≤ ·) → l = l'
  | [], l', p, _, _ => (List.Perm.nil_eq p)
  | x :: l, [], p, _, _ => absurd p.length_eq (by simp)
  | x :: l, y :: l', p, h, h' => by
    have a := List.pairwise_cons.mp h
    have b := List.pairwise_cons.mp h'
    have e : x = y := by
      have h1 : x ≤ y := by
        rcases List.mem_cons.mp (p.mem_iff.mpr List.mem_cons_self) with e | e
        · omega
        · exact a.1 y e
      have h2 : y ≤ x := by
        rcases List.mem_cons.mp (p.mem_iff.mp List.mem_cons_self) with e | e
        · omega
        · exact b.1 x e
      omega
    subst e
    rw [sorted_unique p.cons_inv a.2 b.2]
theorem isort_of {l l' : List Int} (p : l'.Perm l) (h : l'.Pairwise (· ≤ ·)) : l' = isort l := sorted_unique (p.trans (isort_perm l).symm) h (isort_sorted l)
theorem isort_id {l : List Int} (h : l.Pairwise (· ≤ ·)) : isort l = l := (isort_of (.refl l) h).symm
def sortedD : List D → Option D
  | [.lst l] => ob (intsOf l) fun ns => some (.lst ((isort ns).map .int))
  | [.tup l] => ob (intsOf l) fun ns => some (.lst ((isort ns).map .int))
  | _ => none
end DL

set_option Elab.async false
set_option linter.all false
set_option maxRecDepth 100000
namespace DL
open PySem PySem.Spec L2 PyProof.Rows
set_option autoImplicit false
/-! ### t[::-1] -/
open HT in
section
variable {prog : Program} {w : World} {A : Around} {E : Value → Shared → Prop} {s : Shared}
theorem places_back (n : Nat) : Builtin.Slice.slicePlaces ((n : Int) - 1) (-1) (-1) = n := by
  unfold Builtin.Slice.slicePlaces
  rw [if_neg (by decide)]
  split
  · rw [show ((n : Int) - 1 - -1 - 1) / (- -1) + 1 = n by rw [show (- -1 : Int) = 1 by decide, Int.ediv_one]; omega]
    exact Int.toNat_natCast n
  · omega
theorem fm_congr {α β : Type} {f g : α → Option β} : ∀ {l : List α}, (∀ x ∈ l, f x = g x) → l.filterMap f = l.filterMap g
  | [], _ => rfl
  | x :: l, h => by rw [List.filterMap_cons, List.filterMap_cons, h x List.mem_cons_self, fm_congr fun y hy => h y (List.mem_cons_of_mem _ hy)]
theorem pick_back (xs : Array Value) : ((List.range xs.size).filterMap fun (m : Nat) => xs[(((xs.size : Int) - 1) + (m : Int) * (-1)).toNat]?) = xs.toList.reverse := by
  have q := congrArg Array.toList (PySem.W.krv_pick xs)
  rw [show xs.toList.reverse.toArray.toList = xs.toList.reverse from rfl] at q
  rw [← q]
  unfold slicePick
  rw [PySem.W.krv_bounds]
  show _ = ((sliceRange ((xs.size : Int) - 1) (-1) (-1)).filterMap (xs[·]?)).toArray.toList
  show _ = (sliceRange ((xs.size : Int) - 1) (-1) (-1)).filterMap (xs[·]?)
  rw [PySem.W.krv_sliceRange, List.filterMap_map]
  refine fm_congr fun m hm => ?_
  have := List.mem_range.mp hm
  show xs[(((xs.size : Int) - 1) + (m : Int) * (-1)).toNat]? = xs[xs.size - 1 - m]?
  rw [show (((xs.size : Int) - 1) + (m : Int) * (-1)).toNat = xs.size - 1 - m by omega]
theorem getItem_tuple_back {t sl : Addr} {items : Array Value} {vs : Value} {Q : Value → Shared → Prop} (tl : IsTup s.heap t items) (hs : s.heap.IsSliceOf sl .none .none vs) (ps : IsPart vs (some (-1)))
    (k : Q (.ref s.heap.objs.size) { s with heap := s.heap.push { cls := .type "tuple", data := .seq items.toList.reverse.toArray } }) (lz : items.size ≤ sizeLine) : wpAny (model prog w) A (getItem (.ref t) (.ref sl)) Q E s := by
  obtain ⟨os, hos, hcs, hds⟩ := id hs
  have isS : s.TypeIs (.ref sl) "slice" := ⟨os, hos, hcs⟩
  have lz2 : sizeOk (.seq items.toList.reverse.toArray) := by show items.toList.reverse.toArray.size ≤ sizeLine; rw [List.size_toArray, List.length_reverse, Array.length_toList]; exact lz
  unfold getItem
  refine wpAny_holding ?_
  refine wpAny_bind (wpAny_sequenceKey tl.typeIs (by decide) ?_)
  refine wpAny_bind (wpAny_callSpecial?_slot (name := Str.ofString "__getitem__") tl.typeIs slot_tuple_getitem (wpAny_call_entry slot_tuple_getitem tl.typeIs entry_tuple_getitem ?_ (args_tuple_getitem _ _)))
  show wpAny (model prog w) _ (Builtin.Tuple.tupleItemsOf (.ref t) >>= _) _ _ s
  refine wpAny_bind (tupleItemsOf_ tl (wpAny_bind (wpAny_typeOf isS ?_)))
  rw [if_pos (by decide)]
  refine wpAny_bind ?_
  unfold Builtin.Slice.sliceApplied Builtin.Slice.sliceFields
  refine wpAny_bind (wpAny_bind (wpAny_field hos hds (x := .none) rfl (wpAny_bind (wpAny_field hos hds (x := .none) rfl (wpAny_bind (wpAny_field hos hds (x := vs) rfl (wpAny_pure ?_)))))))
  refine wpAny_bind (slicePart_ ps ?_)
  show wpAny (model prog w) _ (if ((-1 : Int) == 0) = true then _ else _) _ _ s
  rw [if_neg (by decide)]
  refine wpAny_bind (slicePart_none (wpAny_bind (slicePart_none (wpAny_bind (wpAny_pure (wpAny_pure ?_))))))
  show wpAny (model prog w) _ (if (((items.size : Int) - 1) == 0 && (-1 : Int) == 1 && Builtin.Slice.slicePlaces ((items.size : Int) - 1) (-1) (-1) == items.size) = true then _ else _) _ _ s
  rw [if_neg (by rw [show ((-1 : Int) == 1) = false by decide, Bool.and_false, Bool.false_and]; exact Bool.false_ne_true)]
  show wpAny (model prog w) _ (Builtin.Tuple.tupleExact ((List.range (Builtin.Slice.slicePlaces ((items.size : Int) - 1) (-1) (-1))).filterMap fun (m : Nat) => items[(((items.size : Int) - 1) + (m : Int) * (-1)).toNat]?).toArray >>= _) _ _ s
  rw [places_back, pick_back]
  first
    | exact wpAny_bind (m := Builtin.Tuple.tupleExact _) (wpAny_newObj_type (wpAny_pure ⟨_, rfl, wpAny_pure k⟩) lz2)
    | exact wpAny_bind (wpAny_bind (m := Builtin.Tuple.tupleExact _) (wpAny_newObj_type (wpAny_pure ⟨_, rfl, wpAny_pure k⟩) lz2))
end
def tRevT (K : PySem.W.Frag) (te : TE) : TE := fun σ H Q => te σ H fun x H1 => ∃ a xs, x = .ref a ∧ SqT K H1 a xs ∧ ∀ p, H1 p = none → Q (.ref p) (upd H1 p (.tup xs.reverse))
theorem pe_revT {X : Cx} {e : Expr} {te : TE} {k : Nat} {p1 p2 p3 pos : Pos} (he : PE X e te) : PE X (.Subscript e (.Slice none none (some (.UnaryOp .USub (.Constant (.int 1) k p1) p2)) p3) pos) (tRevT X.K te) := by
  refine ⟨fun pins s σ H Q I h => Subscript_ (thn (he.run pins s σ H _ I h) fun v s1 ⟨x, H1, I1, r1, q1⟩ => ?_)⟩
  obtain ⟨a, xs, rfl, hx, q⟩ := q1
  cases r1
  have mst : PO X (some (.UnaryOp .USub (.Constant (.int 1) k p1) p2)) (tPart (tUn (rU fun i => .int (-i)) (tC (.int 1)))) := po_some (pe_un un_neg pe_int)
  refine wpAny_Slice (thn (po_none.run pins s1 σ H1 (fun o J => o = none ∧ J = H1) I1 ⟨rfl, rfl⟩) fun vl s2 ⟨l, H2, I2, pl, el, e2⟩ => ?_)
  subst el e2
  refine thn (po_none.run pins s2 σ H2 (fun o J => o = none ∧ J = H2) I2 ⟨rfl, rfl⟩) fun vu s3 ⟨u, H3, I3, pu, eu, e3⟩ => ?_
  subst eu e3
  refine thn (mst.run pins s3 σ H3 (fun o J => o = some (-1) ∧ J = H3) I3 ⟨1, rfl, -1, rfl, rfl, rfl⟩) fun vs s4 ⟨o, H4, I4, ps, eo, e4⟩ => ?_
  subst eo e4
  cases pl
  cases pu
  have I5 : Inv X pins σ H4 { s4 with heap := s4.heap.push { cls := .type "slice", data := .fields #[.none, .none, vs] } } := I4.kept (t' := s4.toks) fun b ob z => Heap.get?_push_of_some _ z
  obtain ⟨its, r, tl, lz⟩ := I5.tuple hx
  have ll := r.length
  show wpAny (model X.prog X.w) X.A (subscriptTail e (.Slice none none (some (.UnaryOp .USub (.Constant (.int 1) k p1) p2)) p3) (.ref a) (.ref s4.heap.objs.size)) (EP X pins σ Q) X.xe { s4 with heap := s4.heap.push { cls := .type "slice", data := .fields #[.none, .none, vs] } }
  refine tail_any (ops := [.ref a, .ref s4.heap.objs.size]) tl.typeIs (slot_tuple_getitem.lookup) (getItem_tuple_back tl (Heap.IsSliceOf.new _ .none .none vs) ps ?_ (by rw [List.size_toArray]; omega)) (by with_unfolding_all rfl)
  refine ⟨.ref _, _, I5.laid (t' := s4.toks) (o := .tup xs.reverse) (fun b ob z => Heap.get?_push_of_some _ z) (Nat.le_refl _) ?_, rfl, q _ (I5.hok.fresh (Nat.le_refl _))⟩
  refine ⟨by rw [List.length_reverse]; exact lz, _, r.reverse, ?_⟩
  exact IsTup.new _ _
end DL

set_option Elab.async false
set_option linter.all false
set_option maxRecDepth 100000
namespace DL
open PySem PySem.Spec L2 PyProof.Rows
set_option autoImplicit false
section
variable {X : Cx} {K : PySem.W.Frag}
theorem ints_rep {G : Hp} (ns : List Int) : RepL K G (ns.map V.int) (ns.map D.int) := RepL.ints ns
theorem cf_sorted : CallF K sortedD (rSortedIT K) := by
  intro F ρ σ H vs ds z Q R t ef k
  unfold sortedD at ef
  split at ef
  · obtain ⟨ns, e1, ef⟩ := ob_inv ef
    cases ef
    obtain ⟨v, rfl, tv⟩ := topL1 t
    obtain ⟨a, xs, rfl, h1, h2⟩ := tv.lst
    cases h2.ints_of e1
    exact ⟨a, ns, rfl, .inl (.inl (.inl h1)), fun ns' p hp hs hn => by rw [isort_of hp hs]; exact k H p _ (.refl R) hn (ints_rep (isort ns))⟩
  · obtain ⟨ns, e1, ef⟩ := ob_inv ef
    cases ef
    obtain ⟨v, rfl, tv⟩ := topL1 t
    obtain ⟨a, xs, rfl, h1, h2⟩ := tv.tup
    cases h2.ints_of e1
    exact ⟨a, ns, rfl, .inr h1, fun ns' p hp hs hn => by rw [isort_of hp hs]; exact k H p _ (.refl R) hn (ints_rep (isort ns))⟩
  · cases ef
/-! max, min of a list of whole numbers -/
def maxI : Int → List Int → Int
  | m, [] => m
  | m, x :: l => maxI (if x > m then x else m) l
def minI : Int → List Int → Int
  | m, [] => m
  | m, x :: l => minI (if x < m then x else m) l
theorem maxI_ge : ∀ (l : List Int) (m : Int), m ≤ maxI m l ∧ ∀ x ∈ l, x ≤ maxI m l
  | [], m => ⟨Int.le_refl _, fun x h => nomatch h⟩
  | y :: l, m => by
    have h := maxI_ge l (if y > m then y else m)
    unfold maxI
    have h1 : m ≤ (if y > m then y else m) ∧ y ≤ (if y > m then y else m) := by split <;> omega
    exact ⟨Int.le_trans h1.1 h.1, fun x hx => by
      rcases List.mem_cons.mp hx with rfl | hx
      · exact Int.le_trans h1.2 h.1
      · exact h.2 x hx⟩
theorem minI_le : ∀ (l : List Int) (m : Int), minI m l ≤ m ∧ ∀ x ∈ l, minI m l ≤ x
  | [], m => ⟨Int.le_refl _, fun x h => nomatch h⟩
  | y :: l, m => by
    have h := minI_le l (if y < m then y else m)
    unfold minI
    have h1 : (if y < m then y else m) ≤ m ∧ (if y < m then y else m) ≤ y := by split <;> omega
    exact ⟨Int.le_trans h.1 h1.1, fun x hx => by
      rcases List.mem_cons.mp hx with rfl | hx
      · exact Int.le_trans h.1 h1.2
      · exact h.2 x hx⟩
theorem maxI_mem : ∀ (l : List Int) (m : Int), maxI m l = m ∨ maxI m l ∈ l
  | [], m => .inl rfl
  | y :: l, m => by
    unfold maxI
    rcases maxI_mem l (if y > m then y else m) with h | h
    · rw [h]; split
      · exact .inr List.mem_cons_self
      · exact .inl rfl
    · exact .inr (List.mem_cons_of_mem _ h)
theorem minI_mem : ∀ (l : List Int) (m : Int), minI m l = m ∨ minI m l ∈ l
  | [], m => .inl rfl
  | y :: l, m => by
    unfold minI
    rcases minI_mem l (if y < m then y else m) with h | h
    · rw [h]; split
      · exact .inr List.mem_cons_self
      · exact .inl rfl
    · exact .inr (List.mem_cons_of_mem _ h)
theorem maxI_of {x m : Int} {l : List Int} (h : m ∈ x :: l) (hm : ∀ y ∈ x :: l, y ≤ m) : m = maxI x l := by
  have a := maxI_ge l x
  have b : maxI x l ≤ m := by
    rcases maxI_mem l x with e | e
    · rw [e]; exact hm x List.mem_cons_self
    · exact hm _ (List.mem_cons_of_mem _ e)
  have c : m ≤ maxI x l := by
    rcases List.mem_cons.mp h with rfl | h
    · exact a.1
    · exact a.2 m h
  omega
theorem minI_of {x m : Int} {l : List Int} (h : m ∈ x :: l) (hm : ∀ y ∈ x :: l, m ≤ y) : m = minI x l := by
  have a := minI_le l x
  have b : m ≤ minI x l := by
    rcases minI_mem l x with e | e
    · rw [e]; exact hm x List.mem_cons_self
    · exact hm _ (List.mem_cons_of_mem _ e)
  have c : minI x l ≤ m := by
    rcases List.mem_cons.mp h with rfl | h
    · exact a.1
    · exact a.2 m h
  omega
def maxLD : List D → Option D
  | [.lst l] => ob (intsOf l) fun ns => match ns with
    | [] => none
    | x :: r => some (.int (maxI x r))
  | _ => none
def minLD : List D → Option D
  | [.lst l] => ob (intsOf l) fun ns => match ns with
    | [] => none
    | x :: r => some (.int (minI x r))
  | _ => none
theorem cd_maxL : CallD K maxLD (rMax K) := by
  intro F ρ σ H vs ds z Q R t ef k
  unfold maxLD at ef
  split at ef
  · obtain ⟨ns, e1, ef⟩ := ob_inv ef
    obtain ⟨v, rfl, tv⟩ := topL1 t
    obtain ⟨a, xs, rfl, h1, h2⟩ := tv.lst
    cases h2.ints_of e1
    split at ef
    · cases ef
    · cases ef
      exact ⟨a, _, rfl, .inl (.inl h1), by simp, fun m hm hy => by rw [maxI_of hm hy]; exact k H _ (.refl R) (.int _)⟩
  · cases ef
theorem cd_minL : CallD K minLD (rMin K) := by
  intro F ρ σ H vs ds z Q R t ef k
  unfold minLD at ef
  split at ef
  · obtain ⟨ns, e1, ef⟩ := ob_inv ef
    obtain ⟨v, rfl, tv⟩ := topL1 t
    obtain ⟨a, xs, rfl, h1, h2⟩ := tv.lst
    cases h2.ints_of e1
    split at ef
    · cases ef
    · cases ef
      exact ⟨a, _, rfl, .inl (.inl h1), by simp, fun m hm hy => by rw [minI_of hm hy]; exact k H _ (.refl R) (.int _)⟩
  · cases ef
/-! t[::-1] -/
def mRevT (m : EV) : EV := bd m fun x ρ => ob (deref ρ x) fun d => match d with
  | .tup l => some (.v (.tup l.reverse), ρ)
  | _ => none
theorem de_revT {e : Expr} {m : EV} {k : Nat} {p1 p2 p3 pos : Pos} (he : DE X e m) : DE X (.Subscript e (.Slice none none (some (.UnaryOp .USub (.Constant (.int 1) k p1) p2)) p3) pos) (mRevT m) := pe_weak (pe_revT he) fun σ H Q ⟨F, ρ, z, ρ', R, em, k⟩ => by
  obtain ⟨y1, ρ1, e1, em⟩ := bd_inv em
  obtain ⟨d, e4, em⟩ := ob_inv em
  split at em
  · cases em
    refine ⟨F, ρ, y1, _, R, e1, fun H1 v s1 r1 => ?_⟩
    obtain ⟨a, xs, rfl, h1, h2⟩ := (s1.rel.top r1 e4).tup
    refine ⟨a, xs, rfl, h1, fun p hp => ?_⟩
    obtain ⟨s3, r3⟩ := s1.rel.newTup h2.reverse hp
    exact k _ _ (s1.trans s3) r3
  · cases em
/-! t * k -/
def repT : D → D → Option D
  | .tup a, .int k => grd (decide (-1000 ≤ k ∧ k ≤ 1000 ∧ a.length ≤ 1000)) (some (.tup (List.replicate k.toNat a).flatten))
  | _, _ => none
def rRepTA (K : PySem.W.Frag) : R2 := fun x y H Q => ∃ l k xs, x = .ref l ∧ y = .int k ∧ SqT K H l xs ∧ -1000 ≤ k ∧ k ≤ 1000 ∧ xs.length ≤ 1000 ∧ ((xs = [] ∨ k = 1) → Q (.ref l) H) ∧ ∀ p, H p = none → Q (.ref p) (upd H p (.tup (List.replicate k.toNat xs).flatten))
theorem tupmul_same (l : Addr) (items : Array Value) (n : Nat) (dd : Option Addr) (sl : Array (Option Value)) (x : Int) (u : Tok) (g0 : (decide (x < -(2 ^ 63)) || decide (x ≥ 2 ^ 63)) = false) (g1 : (items.isEmpty || x == 1) = true) :
    Meets (Builtin.«tuple.__mul__» ⟨[.ref l, .int x u], []⟩) (fun _ R z => z.heap.get? l = some { cls := .type "tuple", dict := dd, data := .seq items n, slots := sl } ∧ R (.ok (.ret (Value.ref l))) z) :=
  .of_wp fun prog w A R z hz => by
    obtain ⟨hp, gg, dd2, tt, oo⟩ := z
    obtain ⟨hl, hz⟩ := hz
    have fi := AutoSeq1.idx_int
    wp_walk using AutoSeq1.wpAny_loadPart' hl
    repeat (first
      | (refine wpAny_ite_false (decide_eq_false (by rw [g0]; exact Bool.false_ne_true)) ?_; wp_walk using AutoSeq1.wpAny_loadPart' hl)
      | (refine wpAny_ite_true (decide_eq_true (by rw [g1])) ?_; wp_walk using AutoSeq1.wpAny_loadPart' hl))
    exact ⟨_, rfl, hz⟩
theorem tupmul_none (l : Addr) (items : Array Value) (n : Nat) (dd : Option Addr) (sl : Array (Option Value)) (x : Int) (u : Tok) (g0 : (decide (x < -(2 ^ 63)) || decide (x ≥ 2 ^ 63)) = false) (g1 : (items.isEmpty || x == 1) = false) (g2 : (decide (x ≤ 0) || items.isEmpty) = true) :
    Meets (Builtin.«tuple.__mul__» ⟨[.ref l, .int x u], []⟩) (fun _ R z => z.heap.get? l = some { cls := .type "tuple", dict := dd, data := .seq items n, slots := sl } ∧ R (.ok (.ret (Value.ref z.heap.objs.size))) { z with heap := z.heap.push { cls := Value.type "tuple", data := Data.seq #[] }, toks := z.toks }) :=
  .of_wp fun prog w A R z hz => by
    obtain ⟨hp, gg, dd2, tt, oo⟩ := z
    obtain ⟨hl, hz⟩ := hz
    have fi := AutoSeq1.idx_int
    wp_walk using AutoSeq1.wpAny_loadPart' hl
    repeat (first
      | (refine wpAny_ite_false (decide_eq_false (by rw [g0]; exact Bool.false_ne_true)) ?_; wp_walk using AutoSeq1.wpAny_loadPart' hl)
      | (refine wpAny_ite_false (decide_eq_false (by rw [g1]; exact Bool.false_ne_true)) ?_; wp_walk using AutoSeq1.wpAny_loadPart' hl)
      | (refine wpAny_ite_true (decide_eq_true (by rw [g2])) ?_; wp_walk using AutoSeq1.wpAny_loadPart' hl))
    exact ⟨_, rfl, hz⟩

theorem op_repTA : OpR X (binaryOp .Mult) (rRepTA X.K) := by
  intro pins s σ H x y v u Q I rx ry h
  obtain ⟨l, k, xs, rfl, rfl, hT, h1, h2, hz, q1, q2⟩ := h
  cases rx
  obtain ⟨t, rfl⟩ := ry
  obtain ⟨its, r, ⟨⟨cls, dd, data, sl⟩, ho, hc, n, hd⟩, hs⟩ := I.tuple hT
  simp only at hc hd
  subst hc hd
  have hl : its.length = xs.length := r.length.symm
  have b0 : (decide (k < -(2 ^ 63)) || decide (k ≥ 2 ^ 63)) = false := by rw [decide_eq_false (by omega), decide_eq_false (by omega)] <;> rfl
  by_cases e1 : (its.toArray.isEmpty || k == 1) = true
  · have q3 : xs = [] ∨ k = 1 := by
      rw [Bool.or_eq_true] at e1
      rcases e1 with e | e
      · left
        have : its = [] := by simpa using e
        rw [this] at hl
        exact List.eq_nil_of_length_eq_zero hl.symm
      · exact .inr (eq_of_beq e)
    exact wpAny_binaryOp_repeat_ref (T := "tuple") (U := "int") (by decide) ⟨_, ho, rfl⟩ (fun s' => typeIs_int s' k t) noFill_tuple_mul F.fills_int_mul F.slot_int_rmul repeat_tuple F.slot_int_index.lookup
      (call_meets F.slot_int_rmul (typeIs_int s k t) F.entry_int_rmul (F.args_int_rmul_2 _ _) (int_rmul_tuple k t l its.toArray n dd sl)
        ⟨ho, rfl, ⟨_, ho, rfl⟩, call_meets F.slot_tuple_mul ⟨_, ho, rfl⟩ F.entry_tuple_mul (F.args_tuple_mul_2 _ _) (tupmul_same l its.toArray n dd sl k t b0 e1) ⟨ho, .ref l, H, I, rfl, q1 q3⟩⟩)
  · have e1 : (its.toArray.isEmpty || k == 1) = false := by simpa using e1
    have e1' := e1
    rw [Bool.or_eq_false_iff] at e1'
    have ne : xs ≠ [] := fun e => by
      rw [e] at hl
      have : its = [] := List.eq_nil_of_length_eq_zero hl
      rw [this] at e1'
      exact absurd e1'.1 (by decide)
    have k1 : k ≠ 1 := fun e => by
      rw [e] at e1'
      exact absurd e1'.2 (by decide)
    by_cases k2 : 2 ≤ k
    · exact op_repT pins s σ H (.ref l) (.int k) _ _ Q I rfl ⟨t, rfl⟩ ⟨l, k, xs, rfl, rfl, hT, ne, k2, h2, hz, q2⟩
    · have e2 : (decide (k ≤ 0) || its.toArray.isEmpty) = true := by rw [decide_eq_true (by omega)]; rfl
      have ek : (List.replicate k.toNat xs).flatten = [] := by rw [show k.toNat = 0 by omega]; rfl
      have q3 := q2 s.heap.objs.size (I.hok.fresh (Nat.le_refl _))
      rw [ek] at q3
      exact wpAny_binaryOp_repeat_ref (T := "tuple") (U := "int") (by decide) ⟨_, ho, rfl⟩ (fun s' => typeIs_int s' k t) noFill_tuple_mul F.fills_int_mul F.slot_int_rmul repeat_tuple F.slot_int_index.lookup
        (call_meets F.slot_int_rmul (typeIs_int s k t) F.entry_int_rmul (F.args_int_rmul_2 _ _) (int_rmul_tuple k t l its.toArray n dd sl)
          ⟨ho, rfl, ⟨_, ho, rfl⟩, call_meets F.slot_tuple_mul ⟨_, ho, rfl⟩ F.entry_tuple_mul (F.args_tuple_mul_2 _ _) (tupmul_none l its.toArray n dd sl k t b0 e1 e2) ⟨ho, .ref s.heap.objs.size, _, I.laid (t' := s.toks) (o := .tup []) (fun b ob z => Heap.get?_push_of_some _ z) (Nat.le_refl _) ⟨Nat.zero_le _, [], .nil, ⟨_, Heap.get?_push_size _ rfl, rfl, _, rfl⟩⟩, rfl, q3⟩⟩)
theorem od_repT : OpD K repT (rRepTA K) := by
  intro F ρ σ H v u d e z Q R tv tu ef k
  unfold repT at ef
  split at ef
  · rename_i a kk
    obtain ⟨g, ef⟩ := grd_inv ef
    cases ef
    have g := of_decide_eq_true g
    cases tu.int
    cases tv with
    | own e h => rename_i a o; cases o <;> exact h.elim
    | rep rv =>
      obtain ⟨a, xs, rfl, h1, h2⟩ := (Top.rep (H := H) rv).tup
      refine ⟨a, kk, xs, rfl, rfl, h1, g.1, g.2.1, by rw [h2.length]; exact g.2.2, fun w => ?_, fun p hp => ?_⟩
      · have e : (List.replicate kk.toNat ‹List D›).flatten = ‹List D› := by
          rcases w with w | w
          · have : ‹List D› = [] := by
              subst w
              cases h2
              rfl
            rw [this]
            simp
          · subst w
            simp
        rw [e] at k
        exact k H _ (.refl R) rv
      · obtain ⟨s3, r3⟩ := R.newTup (h2.rep kk.toNat) hp
        exact k _ _ s3 r3
  · cases ef
end
end DL

set_option Elab.async false
set_option linter.all false
set_option maxRecDepth 100000
namespace DL
open PySem PySem.Spec L2
set_option autoImplicit false
/-! ### enumerate, zip -/
def enumD : Nat → List D → List D
  | _, [] => []
  | k, d :: ds => .tup [.int k, d] :: enumD (k + 1) ds
def zipD : List D → List D → List D
  | d :: ds, e :: es => .tup [d, e] :: zipD ds es
  | _, _ => []
theorem enumD_len : ∀ (k : Nat) (l : List D), (enumD k l).length = l.length
  | _, [] => rfl
  | k, d :: ds => by rw [enumD, List.length_cons, List.length_cons, enumD_len (k + 1) ds]
theorem enumD_get : ∀ (k : Nat) (l : List D) (i : Nat), (enumD k l)[i]? = l[i]?.map fun d => D.tup [.int ((k + i : Nat) : Int), d]
  | _, [], i => by simp [enumD]
  | k, d :: ds, 0 => by simp [enumD]
  | k, d :: ds, i + 1 => by
    rw [enumD, List.getElem?_cons_succ, List.getElem?_cons_succ, enumD_get (k + 1) ds i]
    rw [show k + 1 + i = k + (i + 1) by omega]
theorem zipD_len : ∀ (l m : List D), (zipD l m).length = min l.length m.length
  | [], _ => by simp [zipD]
  | _ :: _, [] => by simp [zipD]
  | d :: ds, e :: es => by rw [zipD, List.length_cons, zipD_len ds es, List.length_cons, List.length_cons]; omega
theorem zipD_get : ∀ (l m : List D) (i : Nat) (d e : D), l[i]? = some d → m[i]? = some e → (zipD l m)[i]? = some (.tup [d, e])
  | [], _, i, d, e, h, _ => by simp at h
  | _ :: _, [], i, d, e, _, h => by simp at h
  | x :: xs, y :: ys, 0, d, e, h, h' => by
    simp at h h'
    subst h h'
    rfl
  | x :: xs, y :: ys, i + 1, d, e, h, h' => by
    rw [zipD, List.getElem?_cons_succ]
    exact zipD_get xs ys i d e (by simpa using h) (by simpa using h')
section
variable {X : Cx} {K : PySem.W.Frag}
theorem newPair {F : Fr0} {ρ : Env'} {σ : St} {H : Hp} {T : Addr} {x y : V} {d e : D} (R : Rel K F ρ σ H) (hT : H T = none) (rx : Rep K (vis F ρ σ H) x d) (ry : Rep K (vis F ρ σ H) y e) : Stp K F ρ ρ σ σ H (upd H T (.tup [x, y])) ∧ Rep K (vis F ρ σ (upd H T (.tup [x, y]))) (.ref T) (.tup [d, e]) :=
  R.newTup (.cons rx (.cons ry .nil)) hT
theorem itw_enumL {F : Fr0} {ρ : Env'} {σ : St} {H : Hp} {a : Addr} {xs : List V} {ds : List D} (e : vis F ρ σ H a = some (.lst xs)) (r : RepL K (vis F ρ σ H) xs ds) : ItW K F ρ σ H (Ite K a) (enumD 0 ds) := by
  have q : ∀ ρ' σ' H', Vle (vis F ρ σ H) (vis F ρ' σ' H') → H' a = some (.lst xs) := fun ρ' σ' H' m => (hid_some (m.ex a (.lst xs) trivial e)).1
  have hlen := r.length
  refine ⟨fun i ρ' σ' H' R m hi => ?_, fun i ρ' σ' H' R m hi => ?_, fun i ρ' σ' H' x H2 R m hi y => ?_⟩
  · rw [enumD_len] at hi
    exact ⟨xs, xs[i]'(by omega), .inl (.inl (q _ _ _ m)), List.getElem?_eq_getElem (by omega)⟩
  · rw [enumD_len] at hi
    exact ⟨xs, .inl (.inl (q _ _ _ m)), by omega⟩
  · rw [enumD_len] at hi
    obtain ⟨T, x', rfl, hT, rfl, y⟩ := y
    have hx := y xs (.inl (.inl (q _ _ _ m)))
    obtain ⟨v, h1, h2⟩ := r.get (List.getElem?_eq_getElem hi)
    rw [hx] at h1; cases h1
    obtain ⟨s1, r1⟩ := newPair R hT (.int (i : Int)) (Rep.le m h2)
    exact ⟨s1, _, by rw [enumD_get, List.getElem?_eq_getElem hi, Nat.zero_add]; rfl, r1⟩
theorem itw_enumT {F : Fr0} {ρ : Env'} {σ : St} {H : Hp} {a : Addr} {xs : List V} {ds : List D} (e : SqT K (vis F ρ σ H) a xs) (r : RepL K (vis F ρ σ H) xs ds) : ItW K F ρ σ H (IteT K a) (enumD 0 ds) := by
  have q : ∀ ρ' σ' H', Vle (vis F ρ σ H) (vis F ρ' σ' H') → SqT K H' a xs := fun ρ' σ' H' m => sqT_vis (SqT.leW m.toVleW e)
  have hlen := r.length
  refine ⟨fun i ρ' σ' H' R m hi => ?_, fun i ρ' σ' H' R m hi => ?_, fun i ρ' σ' H' x H2 R m hi y => ?_⟩
  · rw [enumD_len] at hi
    exact ⟨xs, xs[i]'(by omega), q _ _ _ m, List.getElem?_eq_getElem (by omega)⟩
  · rw [enumD_len] at hi
    exact ⟨xs, q _ _ _ m, by omega⟩
  · rw [enumD_len] at hi
    obtain ⟨T, x', rfl, hT, rfl, y⟩ := y
    have hx := y xs (q _ _ _ m)
    obtain ⟨v, h1, h2⟩ := r.get (List.getElem?_eq_getElem hi)
    rw [hx] at h1; cases h1
    obtain ⟨s1, r1⟩ := newPair R hT (.int (i : Int)) (Rep.le m h2)
    exact ⟨s1, _, by rw [enumD_get, List.getElem?_eq_getElem hi, Nat.zero_add]; rfl, r1⟩
def iEnum' (m : EV) : LI := fun ρ => ob (lCons m lNil ρ) fun p => ob (toVL p.2 p.1) fun q => match q.1 with
  | [.lst ds] => some (enumD 0 ds, q.2)
  | [.tup ds] => some (enumD 0 ds, q.2)
  | _ => none
theorem di_enum {e : Expr} {m : EV} {p pos tpos : Pos} {elts : List Expr} {kk : Nat} (hg : Gl X "enumerate") (hm : X.mg "enumerate" = none) (h : DE X e m) (hs : starEach [e] X.env = [(false, eval e X.env)] := by rfl) (hs1 : starEach [e] X.env = (false, eval e X.env) :: starEach [] X.env := by rfl) :
    DI X (.Tuple elts kk tpos) (.Call (.Name "enumerate" p) [e] [] pos) (iEnum' m) :=
  pi_weak (pi_or (pi_enum hg hm (da_cons h da_nil hs1) hs) (pi_enumT hg hm (da_cons h da_nil hs1) hs)) fun σ H Q ⟨F, ρ, items, ρ', R, em, k⟩ => by
  obtain ⟨⟨xs, ρ1⟩, e1, em⟩ := ob_inv em
  obtain ⟨⟨ds, ρ2⟩, e2, em⟩ := ob_inv em
  simp only at em
  split at em
  · cases em
    left
    refine ⟨F, ρ, xs, ρ1, R, e1, fun H1 vs s1 r1 => ?_⟩
    obtain ⟨s2, r2⟩ := s1.rel.toVL r1 e2
    cases r2 with
    | cons q1 q2 =>
      cases q2
      cases q1 with
      | lst e r => exact ⟨_, _, rfl, .inl (.inl (hid_some e).1), k H1 _ (s1.trans s2) fun F' H2 R' m => itw_enumL (m.ex _ (.lst _) trivial e) (RepL.le m r)⟩
  · cases em
    right
    refine ⟨F, ρ, xs, ρ1, R, e1, fun H1 vs s1 r1 => ?_⟩
    obtain ⟨s2, r2⟩ := s1.rel.toVL r1 e2
    cases r2 with
    | cons q1 q2 =>
      cases q2
      cases q1 with
      | tup e r => exact ⟨_, _, rfl, sqT_vis e, k H1 _ (s1.trans s2) fun F' H2 R' m => itw_enumT (SqT.leW m.toVleW e) (RepL.le m r)⟩
  · cases em
theorem itw_zipL {F : Fr0} {ρ : Env'} {σ : St} {H : Hp} {a b : Addr} {xs ys : List V} {ds es : List D} (e : vis F ρ σ H a = some (.lst xs)) (r : RepL K (vis F ρ σ H) xs ds) (e' : vis F ρ σ H b = some (.lst ys)) (r' : RepL K (vis F ρ σ H) ys es) : ItW K F ρ σ H (Itz K a b) (zipD ds es) := by
  have q : ∀ ρ' σ' H', Vle (vis F ρ σ H) (vis F ρ' σ' H') → H' a = some (.lst xs) := fun ρ' σ' H' m => (hid_some (m.ex a (.lst xs) trivial e)).1
  have q' : ∀ ρ' σ' H', Vle (vis F ρ σ H) (vis F ρ' σ' H') → H' b = some (.lst ys) := fun ρ' σ' H' m => (hid_some (m.ex b (.lst ys) trivial e')).1
  have hl := r.length
  have hl' := r'.length
  refine ⟨fun i ρ' σ' H' R m hi => ?_, fun i ρ' σ' H' R m hi => ?_, fun i ρ' σ' H' x H2 R m hi y => ?_⟩ <;> rw [zipD_len] at hi
  · exact ⟨xs, ys, xs[i]'(by omega), ys[i]'(by omega), .inl (.inl (q _ _ _ m)), .inl (.inl (q' _ _ _ m)), List.getElem?_eq_getElem (by omega), List.getElem?_eq_getElem (by omega)⟩
  · exact ⟨xs, ys, .inl (.inl (q _ _ _ m)), .inl (.inl (q' _ _ _ m)), by omega⟩
  · obtain ⟨T, x', y', rfl, hT, rfl, y, z⟩ := y
    have hx := y xs (.inl (.inl (q _ _ _ m)))
    have hy := z ys (.inl (.inl (q' _ _ _ m)))
    obtain ⟨v, h1, h2⟩ := r.get (List.getElem?_eq_getElem (show i < ds.length by omega))
    obtain ⟨u, g1, g2⟩ := r'.get (List.getElem?_eq_getElem (show i < es.length by omega))
    rw [hx] at h1; cases h1
    rw [hy] at g1; cases g1
    obtain ⟨s1, r1⟩ := newPair R hT (Rep.le m h2) (Rep.le m g2)
    exact ⟨s1, _, zipD_get ds es i _ _ (List.getElem?_eq_getElem (by omega)) (List.getElem?_eq_getElem (by omega)), r1⟩
theorem itw_zipT {F : Fr0} {ρ : Env'} {σ : St} {H : Hp} {a b : Addr} {xs ys : List V} {ds es : List D} (e : SqT K (vis F ρ σ H) a xs) (r : RepL K (vis F ρ σ H) xs ds) (e' : SqT K (vis F ρ σ H) b ys) (r' : RepL K (vis F ρ σ H) ys es) : ItW K F ρ σ H (RZ.ItzT K a b) (zipD ds es) := by
  have q : ∀ ρ' σ' H', Vle (vis F ρ σ H) (vis F ρ' σ' H') → SqT K H' a xs := fun ρ' σ' H' m => sqT_vis (SqT.leW m.toVleW e)
  have q' : ∀ ρ' σ' H', Vle (vis F ρ σ H) (vis F ρ' σ' H') → SqT K H' b ys := fun ρ' σ' H' m => sqT_vis (SqT.leW m.toVleW e')
  have hl := r.length
  have hl' := r'.length
  refine ⟨fun i ρ' σ' H' R m hi => ?_, fun i ρ' σ' H' R m hi => ?_, fun i ρ' σ' H' x H2 R m hi y => ?_⟩ <;> rw [zipD_len] at hi
  · exact ⟨xs, ys, xs[i]'(by omega), ys[i]'(by omega), q _ _ _ m, q' _ _ _ m, List.getElem?_eq_getElem (by omega), List.getElem?_eq_getElem (by omega)⟩
  · exact ⟨xs, ys, q _ _ _ m, q' _ _ _ m, by omega⟩
  · obtain ⟨T, x', y', rfl, hT, rfl, y, z⟩ := y
    have hx := y xs (q _ _ _ m)
    have hy := z ys (q' _ _ _ m)
    obtain ⟨v, h1, h2⟩ := r.get (List.getElem?_eq_getElem (show i < ds.length by omega))
    obtain ⟨u, g1, g2⟩ := r'.get (List.getElem?_eq_getElem (show i < es.length by omega))
    rw [hx] at h1; cases h1
    rw [hy] at g1; cases g1
    obtain ⟨s1, r1⟩ := newPair R hT (Rep.le m h2) (Rep.le m g2)
    exact ⟨s1, _, zipD_get ds es i _ _ (List.getElem?_eq_getElem (by omega)) (List.getElem?_eq_getElem (by omega)), r1⟩
def iZip' (m n : EV) : LI := fun ρ => ob (lCons m (lCons n lNil) ρ) fun p => ob (toVL p.2 p.1) fun q => match q.1 with
  | [.lst ds, .lst es] => some (zipD ds es, q.2)
  | [.tup ds, .tup es] => some (zipD ds es, q.2)
  | _ => none
theorem di_zip {e e2 : Expr} {m n : EV} {p pos tpos : Pos} {elts : List Expr} {kk : Nat} (hg : Gl X "zip") (hm : X.mg "zip" = none) (h : DE X e m) (h2 : DE X e2 n)
    (hs : starEach [e, e2] X.env = (false, eval e X.env) :: starEach [e2] X.env := by rfl) (hs2 : starEach [e2] X.env = (false, eval e2 X.env) :: starEach [] X.env := by rfl) (hpl : (backTo pos (starEach [e2] X.env)).any (·.1) = false := by rfl) :
    DI X (.Tuple elts kk tpos) (.Call (.Name "zip" p) [e, e2] [] pos) (iZip' m n) :=
  pi_weak (RZ.pi_zipA hg hm (da_cons h (da_cons h2 da_nil hs2) hs) hs hpl) fun σ H Q ⟨F, ρ, items, ρ', R, em, k⟩ => by
  obtain ⟨⟨xs, ρ1⟩, e1, em⟩ := ob_inv em
  obtain ⟨⟨ds, ρ2⟩, e2, em⟩ := ob_inv em
  simp only at em
  refine ⟨F, ρ, xs, ρ1, R, e1, fun H1 vs s1 r1 => ?_⟩
  obtain ⟨s2, r2⟩ := s1.rel.toVL r1 e2
  split at em
  · cases em
    cases r2 with
    | cons q1 q2 =>
      cases q2 with
      | cons q2 q3 =>
        cases q3
        cases q1 with
        | lst e r =>
          cases q2 with
          | lst e' r' => exact ⟨_, _, _, _, rfl, .inl ⟨.inl (.inl (hid_some e).1), .inl (.inl (hid_some e').1), k H1 _ (s1.trans s2) fun F' H2 R' m => itw_zipL (m.ex _ (.lst _) trivial e) (RepL.le m r) (m.ex _ (.lst _) trivial e') (RepL.le m r')⟩⟩
  · cases em
    cases r2 with
    | cons q1 q2 =>
      cases q2 with
      | cons q2 q3 =>
        cases q3
        cases q1 with
        | tup e r =>
          cases q2 with
          | tup e' r' => exact ⟨_, _, _, _, rfl, .inr ⟨sqT_vis e, sqT_vis e', k H1 _ (s1.trans s2) fun F' H2 R' m => itw_zipT (SqT.leW m.toVleW e) (RepL.le m r) (SqT.leW m.toVleW e') (RepL.le m r')⟩⟩
  · cases em
/-! list(range(..)), tuple(range(..)) -/
theorem rep_rg {G : Hp} (a b : Int) : RepL K G (rgV a b) (rngL a (b - a).toNat) := by
  have q : ∀ l : List Nat, RepL K G (l.map fun (i : Nat) => V.int (a + (i : Nat))) (l.map fun (i : Nat) => D.int (a + (i : Int))) := fun l => by
    induction l with
    | nil => exact .nil
    | cons x l ih => exact .cons (.int _) ih
  exact q _
def rgOkB (a b : Int) : Bool := decide (-(2 ^ 62) ≤ a ∧ a < 2 ^ 62 ∧ -(2 ^ 62) ≤ b ∧ b < 2 ^ 62 ∧ (b - a).toNat ≤ 2 ^ 24)
theorem rgOkB_of {a b : Int} (h : rgOkB a b = true) : RgOk a b := by unfold rgOkB at h; have q := of_decide_eq_true h; exact q
def rgo1 (d : D) (ρ : Env') : Option (List D × Env') := match d with
  | .int j => grd (rgOkB 0 j) (some (rngL 0 j.toNat, ρ))
  | _ => none
def rg2 (d e : D) (ρ : Env') : Option (List D × Env') := match d, e with
  | .int i, .int j => grd (rgOkB i j) (some (rngL i (j - i).toNat, ρ))
  | _, _ => none
def mRg1 (m : EV) : LI := bd m fun x ρ => ob (deref ρ x) fun d => rgo1 d ρ
def mRg2 (m n : EV) : LI := bd m fun x => bd n fun y ρ => ob (deref ρ x) fun d => ob (deref ρ y) fun e => rg2 d e ρ
def mLR (l : LI) : FV := fun ρ => ob (l ρ) fun p => some (.lst p.1, p.2)
def mTR (l : LI) : EV := fun ρ => ob (l ρ) fun p => some (.v (.tup p.1), p.2)
theorem rg1_of {m : EV} {σ : St} {H : Hp} {Q : Int → Int → Hp → Prop} (h : ∃ F ρ l ρ', Rel K F ρ σ H ∧ mRg1 m ρ = some (l, ρ') ∧ ∀ H' a b, Stp K F ρ ρ' σ σ H H' → rgOkB a b = true → l = rngL a (b - a).toNat → Q a b H') : tRg1 (tD K m) σ H Q := by
  obtain ⟨F, ρ, l, ρ', R, em, k⟩ := h
  obtain ⟨y1, ρ1, e1, em⟩ := bd_inv em
  obtain ⟨d, e2, em⟩ := ob_inv em
  unfold rgo1 at em
  split at em
  · obtain ⟨g, em⟩ := grd_inv em
    cases em
    exact ⟨F, ρ, y1, _, R, e1, fun H1 v s1 r1 => ⟨_, (s1.rel.top r1 e2).int, k H1 0 _ s1 g (by rw [Int.sub_zero])⟩⟩
  · cases em
theorem rg2_of {m n : EV} {σ : St} {H : Hp} {Q : Int → Int → Hp → Prop} (h : ∃ F ρ l ρ', Rel K F ρ σ H ∧ mRg2 m n ρ = some (l, ρ') ∧ ∀ H' a b, Stp K F ρ ρ' σ σ H H' → rgOkB a b = true → l = rngL a (b - a).toNat → Q a b H') : tRg2 (tD K m) (tD K n) σ H Q := by
  obtain ⟨F, ρ, l, ρ', R, em, k⟩ := h
  obtain ⟨x1, ρ1, e1, em⟩ := bd_inv em
  obtain ⟨y1, ρ2, e2, em⟩ := bd_inv em
  obtain ⟨d, e3, em⟩ := ob_inv em
  obtain ⟨e, e4, em⟩ := ob_inv em
  unfold rg2 at em
  split at em
  · obtain ⟨g, em⟩ := grd_inv em
    cases em
    exact ⟨F, ρ, x1, ρ1, R, e1, fun H1 v s1 r1 => ⟨F, ρ1, y1, _, s1.rel, e2, fun H2 u s2 r2 => ⟨_, _, (s2.rel.top (r1.le s2.vle) e3).int, (s2.rel.top r2 e4).int, k H2 _ _ (s1.trans s2) g rfl⟩⟩⟩
  · cases em
def PRgD (X : Cx) (e : Expr) (l : LI) : Prop := PRg X e fun σ H Q => ∃ F ρ items ρ', Rel X.K F ρ σ H ∧ l ρ = some (items, ρ') ∧ ∀ H' a b, Stp X.K F ρ ρ' σ σ H H' → rgOkB a b = true → items = rngL a (b - a).toNat → Q a b H'
theorem prd_1 {a : Expr} {m : EV} {p pos : Pos} (hg : Gl X "range") (hm : X.mg "range" = none) (ha : DE X a m) (na : starEach [a] X.env = (false, eval a X.env) :: starEach [] X.env := by rfl) : PRgD X (.Call (.Name "range" p) [a] [] pos) (mRg1 m) :=
  fun pins s σ H Q I h => prg_1 hg hm ha na pins s σ H Q I (rg1_of h)
theorem prd_2 {a b : Expr} {m n : EV} {p pos : Pos} (hg : Gl X "range") (hm : X.mg "range" = none) (ha : DE X a m) (hb : DE X b n) (na : starEach [a, b] X.env = (false, eval a X.env) :: starEach [b] X.env := by rfl)
    (nb : starEach [b] X.env = (false, eval b X.env) :: starEach [] X.env := by rfl) (hp : (backTo pos (starEach [b] X.env)).any (·.1) = false := by rfl) : PRgD X (.Call (.Name "range" p) [a, b] [] pos) (mRg2 m n) :=
  fun pins s σ H Q I h => prg_2 hg hm ha hb na nb hp pins s σ H Q I (rg2_of h)
theorem df_lr {e : Expr} {l : LI} {p pos : Pos} (hc : X.calm = true) (hg : Gl X "list") (hm : X.mg "list" = none) (he : PRgD X e l) (na : starEach [e] X.env = (false, eval e X.env) :: starEach [] X.env := by rfl) : DF X (.Call (.Name "list" p) [e] [] pos) (mLR l) :=
  pe_weak (pe_listRg hc hg hm he na) fun σ H Q ⟨F, ρ, z, ρ', R, em, k⟩ => by
  obtain ⟨⟨items, ρ1⟩, e1, em⟩ := ob_inv em
  cases em
  refine ⟨F, ρ, items, ρ1, R, e1, fun H1 a b s1 g ei => ⟨rgOkB_of g, fun p hp => ?_⟩⟩
  subst ei
  obtain ⟨a1, b1, c, d, e, f, g⟩ := s1.newF hp (o := .lst (rgV a b)) (d := .lst (rngL a (b - a).toNat)) (rep_rg a b)
  exact k _ p _ a1 b1 c d e f g
theorem de_tr {e : Expr} {l : LI} {p pos : Pos} (hc : X.calm = true) (hg : Gl X "tuple") (hm : X.mg "tuple" = none) (he : PRgD X e l) (na : starEach [e] X.env = (false, eval e X.env) :: starEach [] X.env := by rfl) : DE X (.Call (.Name "tuple" p) [e] [] pos) (mTR l) :=
  pe_weak (pe_tupRg hc hg hm he na) fun σ H Q ⟨F, ρ, z, ρ', R, em, k⟩ => by
  obtain ⟨⟨items, ρ1⟩, e1, em⟩ := ob_inv em
  cases em
  refine ⟨F, ρ, items, ρ1, R, e1, fun H1 a b s1 g ei => ⟨rgOkB_of g, fun p hp => ?_⟩⟩
  subst ei
  obtain ⟨s3, r3⟩ := s1.rel.newTup (rep_rg (K := X.K) a b) hp
  exact k _ _ (s1.trans s3) r3
end
end DL

set_option Elab.async false
set_option linter.all false
set_option maxRecDepth 100000
namespace DL
open PySem PySem.Spec L2
set_option autoImplicit false
/-! ### isinstance of one of two types -/
section
variable {X : Cx} {K : PySem.W.Frag}
theorem Top.isT2 {F : Fr0} {H : Hp} {v : V} {d : D} {t1 t2 : Ty} {b1 b2 : Bool} (tv : Top K H (hid F H) v d) (e1 : DL.isT t1 d = some b1) (e2 : DL.isT t2 d = some b2) : ∃ ty : String, TyX K H v (.type ty) ∧ kitB ty t1.nm = some b1 ∧ kitB ty t2.nm = some b2 := by
  have tT : ∀ {a : Addr} {xs : List V}, SqT K H a xs → TyX K H (.ref a) (.type "tuple") := fun {a xs} h => by
    rcases h with (h | ⟨o, h⟩) | ⟨o, its, n, h1, h2, _⟩
    · exact .base (.tup h)
    · exact .fTuple h
    · exact .kTuple h1 h2
  have tL : ∀ {a : Addr} {xs : List V}, SqL K H a xs → TyX K H (.ref a) (.type "list") := fun {a xs} h => by
    rcases h with (h | ⟨o, h⟩) | ⟨o, its, n, h1, h2, _⟩
    · exact .base (.lst h)
    · exact .base (.frz h)
    · exact .kList h1 h2
  cases d with
  | non => rw [tv.non]; exact ⟨"NoneType", .base .non, by cases t1 <;> cases e1 <;> decide +kernel, by cases t2 <;> cases e2 <;> decide +kernel⟩
  | bl x => rw [tv.bl]; exact ⟨"bool", .base (.bl _), by cases t1 <;> cases e1 <;> decide +kernel, by cases t2 <;> cases e2 <;> decide +kernel⟩
  | int x => rw [tv.int]; exact ⟨"int", .base (.int _), by cases t1 <;> cases e1 <;> decide +kernel, by cases t2 <;> cases e2 <;> decide +kernel⟩
  | str x => rw [tv.str]; exact ⟨"str", .base (.str _), by cases t1 <;> cases e1 <;> decide +kernel, by cases t2 <;> cases e2 <;> decide +kernel⟩
  | tup l =>
    obtain ⟨a, xs, rfl, h1, _⟩ := tv.tup
    exact ⟨"tuple", tT h1, by cases t1 <;> cases e1 <;> decide +kernel, by cases t2 <;> cases e2 <;> decide +kernel⟩
  | lst l =>
    obtain ⟨a, xs, rfl, h1, _⟩ := tv.lst
    exact ⟨"list", .base (.lst h1), by cases t1 <;> cases e1 <;> decide +kernel, by cases t2 <;> cases e2 <;> decide +kernel⟩
  | scr l =>
    obtain ⟨a, xs, rfl, h1, _⟩ := tv.scr
    exact ⟨"list", tL h1, by cases t1 <;> cases e1 <;> decide +kernel, by cases t2 <;> cases e2 <;> decide +kernel⟩
  | dk _ => cases t1 <;> cases e1
  | dt _ => cases t1 <;> cases e1
  | ins _ _ => cases t1 <;> cases e1
  | fn _ => cases t1 <;> cases e1
  | rg _ _ => cases t1 <;> cases e1
def mIsi2 (t1 t2 : Ty) (m : EV) : EV := bd m fun x ρ => ob (deref ρ x) fun d => ob (isT t1 d) fun b1 => ob (isT t2 d) fun b2 => some (.v (.bl (b1 || b2)), ρ)
theorem de_isi2 {x y1 y2 : Str} {p pos py1 py2 pt : Pos} {kt : Nat} {e : Expr} {m : EV} (t1 t2 : Ty) (hg : Gl X x) (hm : X.mg x = none) (hv : bootBuiltins x = some (.builtin "isinstance")) (he' : DE X e m)
    (hgy1 : Gl X y1) (hmy1 : X.mg y1 = none) (hvy1 : bootBuiltins y1 = some (.type t1.nm)) (hgy2 : Gl X y2) (hmy2 : X.mg y2 = none) (hvy2 : bootBuiltins y2 = some (.type t2.nm)) (hn : x ≠ "__name__" := by decide) (hdb : (x == ("__debug__" : Str)) = false := by decide)
    (hny1 : y1 ≠ "__name__" := by decide) (hdy1 : (y1 == ("__debug__" : Str)) = false := by decide) (hny2 : y2 ≠ "__name__" := by decide) (hdy2 : (y2 == ("__debug__" : Str)) = false := by decide)
    (hs1 : starEach [e, .Tuple [.Name y1 py1, .Name y2 py2] kt pt] X.env = (false, eval e X.env) :: starEach [.Tuple [.Name y1 py1, .Name y2 py2] kt pt] X.env := by rfl)
    (hs2 : starEach [.Tuple [.Name y1 py1, .Name y2 py2] kt pt] X.env = (false, eval (.Tuple [.Name y1 py1, .Name y2 py2] kt pt) X.env) :: starEach [] X.env := by rfl)
    (hs3 : starEach [.Name y1 py1, .Name y2 py2] X.env = (false, eval (.Name y1 py1) X.env) :: starEach [.Name y2 py2] X.env := by rfl) (hs4 : starEach [.Name y2 py2] X.env = (false, eval (.Name y2 py2) X.env) :: starEach [] X.env := by rfl)
    (hpl : (backTo pos (starEach [.Tuple [.Name y1 py1, .Name y2 py2] kt pt] X.env)).any (·.1) = false := by rfl) :
    DE X (.Call (.Name x p) [e, .Tuple [.Name y1 py1, .Name y2 py2] kt pt] [] pos) (mIsi2 t1 t2 m) :=
  pe_weak (pe_callB call_isiT hg hm hv (pa_cons he' (pa_cons (pe_tup (pa_cons (pe_bltn (v := .ty t1.nm) hgy1 hmy1 hvy1 rfl hny1 hdy1) (pa_cons (pe_bltn (v := .ty t2.nm) hgy2 hmy2 hvy2 rfl hny2 hdy2) pa_nil hs4) hs3)) pa_nil hs2) hs1) hn hdb hs1 hpl) fun σ H Q ⟨F, ρ, z, ρ', R, em, k⟩ => by
  obtain ⟨y1, ρ1, e1, em⟩ := bd_inv em
  obtain ⟨d, e2, em⟩ := ob_inv em
  obtain ⟨b1, e3, em⟩ := ob_inv em
  obtain ⟨b2, e4, em⟩ := ob_inv em
  cases em
  refine ⟨F, ρ, y1, _, R, e1, fun H1 v s1 r1 => ?_⟩
  refine ⟨by rw [sizeLine_eq]; exact (show (2 : Nat) ≤ 16777216 by decide), fun p hp => ?_⟩
  have s2 := s1.rel.alloc hp (.tup [.ty t1.nm, .ty t2.nm])
  have tv := s2.rel.top (r1.le s2.vle) e2
  obtain ⟨ty, q1, q2, q3⟩ := tv.isT2 e3 e4
  refine ⟨v, p, [.ty t1.nm, .ty t2.nm], .type ty, [.type t1.nm, .type t2.nm], b1 || b2, rfl, upd_same, .cons (.ty _) (.cons (.ty _) .nil), q1, ?_, k _ _ (s1.trans s2) (.bl _)⟩
  refine kitAny_cons (b := b1) (kit_ty q2) (fun w => ?_) fun w => ?_
  · rw [w, Bool.false_or]
    refine kitAny_cons (b := b2) (kit_ty q3) (fun w => ?_) fun w => w
    rw [w]; exact kitAny_nil
  · rw [w]; rfl
theorem de_gint {x : Str} {i : Int} {pos : Pos} (hg : Gl X x) (h : ∃ t, X.mg x = some (.int i t)) (hd : (x == ("__debug__" : Str)) = false := by decide) : DE X (.Name x pos) (mC (.int i)) := by
  obtain ⟨t, h⟩ := h
  exact de_of_c (pe_glob (v := .int i) hg h ⟨t, rfl⟩ hd) fun _ => .int i
end
end DL

set_option Elab.async false
set_option linter.all false
set_option maxRecDepth 100000
namespace DL
open PySem PySem.Spec L2
set_option autoImplicit false
/-! ### dicts with whole numbers and texts as keys -/
def keyOf : D → Option Key
  | .int i => some (.inl i)
  | .str x => some (.inr x)
  | _ => none
def putD (kv : List (Key × D)) (k : Key) (d : D) : List (Key × D) := if (kv.any fun e => decide (e.1 = k)) = true then kv.map (fun e => if e.1 = k then (e.1, d) else e) else kv ++ [(k, d)]
def valD (kv : List (Key × D)) (k : Key) : Option D := (kv.find? fun e => decide (e.1 = k)).map (·.2)
def KRel (K : PySem.W.Frag) (G : Hp) (kw : List (Key × V)) (kv : List (Key × D)) : Prop := kw.map Prod.fst = kv.map Prod.fst ∧ RepL K G (kw.map Prod.snd) (kv.map Prod.snd)
section
variable {K : PySem.W.Frag} {G : Hp}
theorem KRel.le {G' : Hp} (m : Vle G G') {kw : List (Key × V)} {kv : List (Key × D)} (h : KRel K G kw kv) : KRel K G' kw kv := ⟨h.1, RepL.le m h.2⟩
theorem KRel.length {kw : List (Key × V)} {kv : List (Key × D)} (h : KRel K G kw kv) : kw.length = kv.length := by
  have := congrArg List.length h.1
  rw [List.length_map, List.length_map] at this
  exact this
theorem KRel.any {kw : List (Key × V)} {kv : List (Key × D)} (h : KRel K G kw kv) (k : Key) : (kw.any fun e => decide (e.1 = k)) = (kv.any fun e => decide (e.1 = k)) := by
  have e1 : (kw.any fun e => decide (e.1 = k)) = ((kw.map Prod.fst).any fun e => decide (e = k)) := by rw [List.any_map]; rfl
  have e2 : (kv.any fun e => decide (e.1 = k)) = ((kv.map Prod.fst).any fun e => decide (e = k)) := by rw [List.any_map]; rfl
  rw [e1, e2, h.1]
theorem KRel.nil : KRel K G [] [] := ⟨rfl, .nil⟩
theorem KRel.cons_inv {p : Key × V} {q : Key × D} {kw : List (Key × V)} {kv : List (Key × D)} (h : KRel K G (p :: kw) (q :: kv)) : p.1 = q.1 ∧ Rep K G p.2 q.2 ∧ KRel K G kw kv := by
  obtain ⟨a, b⟩ := h
  simp only [List.map_cons, List.cons.injEq] at a
  cases b with
  | cons b1 b2 => exact ⟨a.1, b1, a.2, b2⟩
theorem KRel.cons {p : Key × V} {q : Key × D} {kw : List (Key × V)} {kv : List (Key × D)} (h1 : p.1 = q.1) (h2 : Rep K G p.2 q.2) (h : KRel K G kw kv) : KRel K G (p :: kw) (q :: kv) := ⟨by rw [List.map_cons, List.map_cons, h1, h.1], .cons h2 h.2⟩
theorem KRel.upd {k : Key} {v : V} {d : D} (r : Rep K G v d) : ∀ {kw : List (Key × V)} {kv : List (Key × D)}, KRel K G kw kv → KRel K G (kw.map fun e => if e.1 = k then (e.1, v) else e) (kv.map fun e => if e.1 = k then (e.1, d) else e)
  | [], [], _ => .nil
  | [], _ :: _, h => by have := h.length; simp at this
  | _ :: _, [], h => by have := h.length; simp at this
  | p :: kw, q :: kv, h => by
    obtain ⟨h1, h2, h3⟩ := h.cons_inv
    rw [List.map_cons, List.map_cons]
    refine .cons ?_ ?_ (KRel.upd r h3)
    · rw [h1]; split <;> first | rfl | exact h1
    · rw [h1]; split
      · exact r
      · exact h2
theorem KRel.put {k : Key} {v : V} {d : D} (r : Rep K G v d) {kw : List (Key × V)} {kv : List (Key × D)} (h : KRel K G kw kv) : KRel K G (putK kw k v) (putD kv k d) := by
  unfold putK putD
  rw [h.any]
  split
  · exact h.upd r
  · refine ⟨by rw [List.map_append, List.map_append, h.1]; rfl, ?_⟩
    rw [List.map_append, List.map_append]
    exact h.2.append (.cons r .nil)
theorem KRel.val {k : Key} : ∀ {kw : List (Key × V)} {kv : List (Key × D)}, KRel K G kw kv → (∃ v d, valV kw k = some v ∧ valD kv k = some d ∧ Rep K G v d) ∨ (valV kw k = none ∧ valD kv k = none)
  | [], [], _ => .inr ⟨rfl, rfl⟩
  | [], _ :: _, h => by have := h.length; simp at this
  | _ :: _, [], h => by have := h.length; simp at this
  | p :: kw, q :: kv, h => by
    obtain ⟨h1, h2, h3⟩ := h.cons_inv
    by_cases e : q.1 = k
    · exact .inl ⟨p.2, q.2, valV_pos (h1.trans e), by simp [valD, List.find?_cons, e], h2⟩
    · have a : valV (p :: kw) k = valV kw k := valV_neg (by rw [h1]; exact e)
      have b : valD (q :: kv) k = valD kv k := by simp [valD, List.find?_cons, e]
      rw [a, b]
      exact KRel.val h3
theorem putD_len (kv : List (Key × D)) (k : Key) (d : D) : (putD kv k d).length ≤ kv.length + 1 := by
  unfold putD
  split
  · rw [List.length_map]; omega
  · rw [List.length_append]; exact Nat.le_refl _
theorem Top.key {F : Fr0} {H : Hp} {v : V} {d : D} {k : Key} (tv : Top K H (hid F H) v d) (e : keyOf d = some k) : v = kV k := by
  cases d <;> cases e
  · exact tv.int
  · exact tv.str
theorem Top.dkr {F : Fr0} {H : Hp} {v : V} {kv : List (Key × D)} (tv : Top K H (hid F H) v (.dk kv)) : ∃ a kw, v = .ref a ∧ Rd H a (.dK kw) ∧ KRel K (hid F H) kw kv := by
  cases tv with
  | own e h =>
    rename_i a o
    cases o <;> first | exact h.elim | exact ⟨a, _, rfl, .inl e, h⟩
  | rep rv =>
    cases rv with
    | dk rd e r => exact ⟨_, _, rfl, rd.elim (fun q => .inl (hid_some q).1) fun ⟨o, q⟩ => .inr ⟨o, (hid_some q).1⟩, e, r⟩
end
def dcL (g : GV) (t : TV) (mk mv : EV) (vs : List Nat) : List D → List (Key × D) → Env' → Option (List (Key × D) × Env')
  | [], acc, ρ => some (acc, ρ)
  | d :: ds, acc, ρ => ob (g d (wipeE ρ vs)) fun ρ1 => ob (t ρ1) fun p => match p.1 with
    | true => ob (mk p.2) fun q => ob (mv q.2) fun r => ob (deref r.2 q.1) fun kd => ob (keyOf kd) fun k => ob (toV r.2 r.1) fun y => dcL g t mk mv vs ds (putD acc k y.1) (restE ρ y.2 vs)
    | false => dcL g t mk mv vs ds acc (restE ρ p.2 vs)
def mDc (it : LI) (g : GV) (t : TV) (mk mv : EV) (vs : List Nat) : FV := fun ρ => ob (it ρ) fun p => grd (freeE p.2 vs && lineOk p.1.length) (ob (dcL g t mk mv vs p.1 [] p.2) fun z => some (.dk z.1, z.2))
section
variable {X : Cx} {K : PySem.W.Frag}
theorem dcD {it : LI} {g : GV} {t : TV} {mk mv : EV} {vs : List Nat} {σ : St} {H : Hp} {Q : VK} (h : tDF K (mDc it g t mk mv vs) σ H Q) : tDc (tDI K it) (tDG K vs g) (tDT K t) (tD K mk) (tD K mv) vs σ H Q := by
  obtain ⟨F, ρ, d, ρ', R, em, k⟩ := h
  obtain ⟨⟨items, ρ1⟩, e1, em⟩ := ob_inv em
  obtain ⟨gd, em⟩ := grd_inv em
  obtain ⟨⟨ys, ρz⟩, e2, em⟩ := ob_inv em
  cases em
  rw [Bool.and_eq_true] at gd
  have hline : items.length ≤ sizeLine := lineOk_of gd.2
  refine ⟨F, ρ, items, ρ1, R, e1, fun H1 J s1 hJ p hp => ?_⟩
  obtain ⟨R1, kp1, vl1⟩ := s1.rel.allocF hp (.dK [])
  have I := hJ (fp F p) _ R1 vl1
  refine ⟨fun i m H2 => m = items.length - i ∧ i ≤ items.length ∧ ∃ ρ2 acc yd, Rel K (fp F p) ρ2 σ H2 ∧ freeE ρ2 vs = true ∧ Keep F H1 H2 ∧ Vle (vis (fp F p) ρ1 σ (upd H1 p (.dK []))) (vis (fp F p) ρ2 σ H2) ∧ Pins ρ1 ρ2 σ σ ∧
      H2 p = some (.dK acc) ∧ acc.length ≤ i ∧ KRel K (vis (fp F p) ρ2 σ H2) acc yd ∧ dcL g t mk mv vs (items.drop i) yd ρ2 = some (ys, ρz),
    ⟨items.length, by simp, Nat.zero_le _, ρ1, [], [], R1, gd.1, kp1, .refl _, .refl _ _, upd_same, Nat.le_refl _, .nil, by rw [List.drop_zero]; exact e2⟩, ?_⟩
  rintro i m H2 ⟨rfl, hi, ρ2, acc, yd, R2, c2, kp2, vl2, pn2, ep, la, ra, el⟩
  by_cases hlt : i < items.length
  · have hd : items.drop i = items[i] :: items.drop (i + 1) := List.drop_eq_getElem_cons hlt
    rw [hd] at el
    simp only [dcL] at el
    obtain ⟨ρ3, eg, el⟩ := ob_inv el
    obtain ⟨⟨b, ρ4⟩, et, el⟩ := ob_inv el
    refine .inr ⟨I.go i ρ2 σ H2 R2 vl2 hlt, fun H3 => i + 1 ≤ items.length ∧ ∃ ρ2 acc yd, Rel K (fp F p) ρ2 σ H3 ∧ freeE ρ2 vs = true ∧ Keep F H1 H3 ∧ Vle (vis (fp F p) ρ1 σ (upd H1 p (.dK []))) (vis (fp F p) ρ2 σ H3) ∧ Pins ρ1 ρ2 σ σ ∧
      H3 p = some (.dK acc) ∧ acc.length ≤ i + 1 ∧ KRel K (vis (fp F p) ρ2 σ H3) acc yd ∧ dcL g t mk mv vs (items.drop (i + 1)) yd ρ2 = some (ys, ρz),
      fun H3 q => ⟨items.length - (i + 1), by omega, rfl, q⟩, fun x H3 y => ?_⟩
    obtain ⟨s3, d, hd', rd⟩ := I.yld i ρ2 σ H2 x H3 R2 vl2 hlt y
    rw [List.getElem?_eq_getElem hlt] at hd'
    cases hd'
    obtain ⟨Rw, vw⟩ := s3.rel.wipeE (σ' := wipe σ vs) (vs := vs) (wipe_length _ _) fun j hj => wipe_out hj
    refine ⟨fp F p, wipeE ρ2 vs, _, ρ3, Rw, Rep.le vw rd, eg, fun σ4 H4 s4 w4 => ?_⟩
    rw [wipe_wipe] at w4
    have hσ : ∀ j, j ∉ vs → σ[j]? = σ4[j]? := fun j hj => by rw [← wipe_out hj, ← w4, wipe_out hj]
    have hl : σ.length = σ4.length := by rw [← wipe_length σ vs, ← w4, wipe_length]
    have back : ∀ {ρ6 : Env'} {H6 : Hp}, Stp K (fp F p) (wipeE ρ2 vs) ρ6 (wipe σ vs) σ4 H3 H6 → Rel K (fp F p) (restE ρ2 ρ6 vs) σ H6 ∧ Vle (vis (fp F p) ρ2 σ H2) (vis (fp F p) (restE ρ2 ρ6 vs) σ H6) ∧ Vle (vis (fp F p) ρ6 σ4 H6) (vis (fp F p) (restE ρ2 ρ6 vs) σ H6) ∧ Pins ρ2 (restE ρ2 ρ6 vs) σ σ ∧ Keep (fp F p) H2 H6 := fun {ρ6 H6} s6 => by
      obtain ⟨a, b⟩ := s6.rel.restE (ρ0 := ρ2) (σ := σ) (vs := vs) R2.val (s3.vle.trans (vw.trans s6.vle)) c2 hl hσ
      refine ⟨a, (s3.vle.trans (vw.trans s6.vle)).trans b, b, fun j e' h' => ?_, s3.keep.trans s6.keep⟩
      have hj := free_not c2 h'
      obtain ⟨⟨d', q1⟩, q2⟩ := s6.pin j e' (by rw [wipeE_out hj]; exact h')
      exact ⟨⟨d', by rw [restE_out hj]; exact q1⟩, rfl⟩
    have s24 := s4
    refine ⟨w4, fp F p, ρ3, b, ρ4, s4.rel, et, fun H5 s5 => ?_⟩
    have s25 := s24.trans s5
    cases b with
    | false =>
      refine iteF ?_
      obtain ⟨a1, a2, a3, a4, a5⟩ := back s25
      refine ⟨hlt, _, acc, yd, a1, free_rest _ c2, kp2.trans fun c hc => a5 c (.inr hc), vl2.trans a2, pn2.trans a4, ?_, Nat.le_succ_of_le la, ra.le a2, el⟩
      rw [a5 p (.inl rfl)]; exact ep
    | true =>
      refine iteT ?_
      obtain ⟨⟨ka, ρ5⟩, ek, el⟩ := ob_inv el
      obtain ⟨⟨xa, ρ6⟩, ee, el⟩ := ob_inv el
      obtain ⟨kd, edk, el⟩ := ob_inv el
      obtain ⟨key, eky, el⟩ := ob_inv el
      obtain ⟨⟨yv, ρ7⟩, ev, el⟩ := ob_inv el
      refine ⟨fp F p, ρ4, ka, ρ5, s5.rel, ek, fun H6 kv0 s6 rk => ⟨fp F p, ρ5, xa, ρ6, s6.rel, ee, fun H7 v s7 rv => ?_⟩⟩
      have hk := (s7.rel.top (rk.le s7.vle) edk).key eky
      obtain ⟨s8, r8⟩ := s7.rel.toV rv ev
      have s28 := ((s25.trans s6).trans s7).trans s8
      obtain ⟨a1, a2, a3, a4, a5⟩ := back s28
      refine ⟨acc, key, hk, by rw [a5 p (.inl rfl)]; exact ep, by omega, ?_⟩
      obtain ⟨b1, b2⟩ := a1.poke (o := .dK (putK acc key v))
      refine ⟨hlt, _, putK acc key v, putD yd key yv, b1, free_rest _ c2, ?_, by rw [b2]; exact vl2.trans a2, pn2.trans a4, upd_same, Nat.le_trans (length_putK acc key v) (by omega), ?_, el⟩
      · intro c hc
        have hc' : c ≠ p := fun z => s1.rel.alo c hc (by rw [z]; exact hp)
        rw [upd_ne hc', a5 c (.inr hc)]
        exact kp2 c hc
      · rw [b2]
        exact (ra.le a2).put (Rep.le a3 r8)
  · have ei : i = items.length := by omega
    subst ei
    rw [List.drop_length] at el
    cases el
    refine .inl ⟨I.stop _ ρz σ H2 R2 vl2 (Nat.le_refl _), k H2 p (.dK acc) R2 ep ra (fun z => s1.rel.alo p z hp) (s1.keep.trans kp2) (s1.vle.trans (vl1.trans vl2)) (s1.pin.trans pn2)⟩
theorem df_dc {kx vx tg iter : Expr} {ifs : List Expr} {scope : Scope} {own : List (Str × Nat)} {pos : Pos} {it : LI} {g : GV} {t : TV} {mk mv : EV} (hc : X.calm = true) (hN : X.N.Nodup) (hi : DI X tg iter it) (ok : BlkOk X.N X.env.scope scope own)
    (hg : ∀ (s : Shared) (H : Hp) (C : Addr) (cl : List (Str × Addr)) (fp : List Addr), DG (X.blk s H scope (compEnvC scope cl C X.env) fp) tg (own.map (·.2)) g) (ht : ∀ (s : Shared) (H : Hp) (C : Addr) (cl : List (Str × Addr)) (fp : List Addr), DPs (X.blk s H scope (compEnvC scope cl C X.env) fp) ifs t)
    (hk : ∀ (s : Shared) (H : Hp) (C : Addr) (cl : List (Str × Addr)) (fp : List Addr), DE (X.blk s H scope (compEnvC scope cl C X.env) fp) kx mk)
    (he : ∀ (s : Shared) (H : Hp) (C : Addr) (cl : List (Str × Addr)) (fp : List Addr), DE (X.blk s H scope (compEnvC scope cl C X.env) fp) vx mv) (hs : ∀ x, foldedSetIterable iter X.env x = pure x := by intro _; rfl) :
    DF X (.DictComp kx vx [⟨tg, iter, ifs, 0⟩] scope pos) (mDc it g t mk mv (own.map (·.2))) := pe_weak (@pe_dc X kx vx tg iter ifs scope own pos (tDI X.K it) (tDG X.K (own.map fun x : Str × Nat => x.2) g) (tDT X.K t) (tD X.K mk) (tD X.K mv) hc hN hi ok hg ht hk he hs) fun σ H Q h => dcD h
/-! d[k] -/
def dgetD : D → D → Option D
  | .dk kv, d => ob (keyOf d) fun k => valD kv k
  | _, _ => none
theorem de_dget {o i : Expr} {m n : EV} {pos : Pos} (hu : X.A.units + 1 < cLine) (ho : DE X o m) (hi : DE X i n) (hs : NoSl i := by intro _ _; rfl) : DE X (.Subscript o i pos) (m2 dgetD m n) := pe_weak (pe_dget hu ho hi hs) fun σ H Q ⟨F, ρ, z, ρ', R, em, k⟩ => by
  obtain ⟨x1, ρ1, e1, em⟩ := bd_inv em
  obtain ⟨y1, ρ2, e2, em⟩ := bd_inv em
  obtain ⟨d, e3, em⟩ := ob_inv em
  obtain ⟨e, e4, em⟩ := ob_inv em
  obtain ⟨z, e5, em⟩ := ob_inv em
  cases em
  refine ⟨F, ρ, x1, ρ1, R, e1, fun H1 v s1 r1 => ⟨F, ρ1, y1, _, s1.rel, e2, fun H2 u s2 r2 => ?_⟩⟩
  unfold dgetD at e5
  split at e5
  · obtain ⟨key, ek, ev⟩ := ob_inv e5
    have hk := (s2.rel.top r2 e4).key ek
    obtain ⟨a, kw, rfl, rd, kr⟩ := (s2.rel.top (r1.le s2.vle) e3).dkr
    rcases KRel.val (k := key) kr with ⟨w, d', q1, q2, q3⟩ | ⟨_, q2⟩
    · rw [q2] at ev
      cases ev
      exact ⟨a, w, rfl, .inl ⟨kw, key, rd, hk, q1.symm⟩, k H2 w (s1.trans s2) q3⟩
    · rw [q2] at ev; cases ev
  · cases e5
end
end DL

set_option Elab.async false
set_option linter.all false
set_option maxRecDepth 100000
namespace DL
open PySem PySem.Spec L2
set_option autoImplicit false
/-! ### a, b = x, y with new objects of their own -/
def pinned_set' {ρ : Env'} {i j : Nat} {s : SV} (h : i ≠ j) : pinned (ρ.set i (some s)) j = pinned ρ j := by
  unfold pinned
  rw [List.getElem?_set_ne h]
def parOk (ρ : Env') (i j : Nat) : Bool := canSet ρ i && canSet ρ j && decide (i ≠ j)
theorem parOk_of {ρ : Env'} {i j : Nat} (h : parOk ρ i j = true) : (i < ρ.length ∧ pinned ρ i = false) ∧ (j < ρ.length ∧ pinned ρ j = false) ∧ i ≠ j := by
  unfold parOk at h
  rw [Bool.and_eq_true, Bool.and_eq_true] at h
  exact ⟨canSet_of h.1.1, canSet_of h.1.2, of_decide_eq_true h.2⟩
def sParOV (i j : Nat) (m : FV) (n : EV) : SVt := fun ρ => ob (m ρ) fun p => ob (n p.2) fun q => ob (toV q.2 q.1) fun y => grd (parOk y.2 i j) (some (.nx ((y.2.set i (some (.o false p.1))).set j (some (.v y.1)))))
def sParVO (i j : Nat) (m : EV) (n : FV) : SVt := fun ρ => ob (m ρ) fun q => ob (n q.2) fun p => ob (toV p.2 q.1) fun y => grd (parOk y.2 i j) (some (.nx ((y.2.set j (some (.o false p.1))).set i (some (.v y.1)))))
def sParOO (i j : Nat) (m n : FV) : SVt := fun ρ => ob (m ρ) fun p => ob (n p.2) fun q => grd (parOk q.2 i j) (some (.nx ((q.2.set j (some (.o false q.1))).set i (some (.o false p.1)))))
section
variable {X : Cx} {K : PySem.W.Frag}
theorem ds_parOV {i j : Nat} {x y : Str} {a b : Expr} {m : FV} {n : EV} {px py pt pos : Pos} {kt k2 pt2} (hc : X.calm = true) (hN : X.N.Nodup) (hi : X.N[i]? = some x) (hj : X.N[j]? = some y) (hij : i ≠ j)
    (hx : X.env.scope.names.lookup x = some .local) (hy : X.env.scope.names.lookup y = some .local) (ha : DF X a m) (hb : DE X b n)
    (hw : swappedStores [.Tuple [.Name x px, .Name y py] kt pt] (.Tuple [a, b] k2 pt2) X.env = pure (some [x, y]))
    (hs : swapsWithSole [.Tuple [.Name x px, .Name y py] kt pt] (.Tuple [a, b] k2 pt2) pos.line X.env = pure false := by rfl)
    (h1 : starEach [a, b] X.env = (false, eval a X.env) :: starEach [b] X.env := by rfl) (h2 : starEach [b] X.env = (false, eval b X.env) :: starEach [] X.env := by rfl) :
    DS X (.Assign [.Tuple [.Name x px, .Name y py] kt pt] (.Tuple [a, b] k2 pt2) pos) (sParOV i j m n) := ps_weak (ps_par hc hN hi hj hij hx hy (pa_cons ha (pa_cons hb pa_nil h2) h1) hw hs) fun D σ H ⟨F, ρ, r, R, em, k⟩ => by
  obtain ⟨⟨d, ρ1⟩, e1, em⟩ := ob_inv em
  obtain ⟨⟨z, ρ2⟩, e2, em⟩ := ob_inv em
  obtain ⟨⟨y, ρ3⟩, e3, em⟩ := ob_inv em
  obtain ⟨g, em⟩ := grd_inv em
  cases em
  obtain ⟨gi, gj, gn⟩ := parOk_of g
  refine ⟨F, ρ, d, ρ1, R, e1, fun H1 p o R1 ep ho nf kp vl pn => ⟨fp F p, ρ1, z, ρ2, R1, e2, fun H2 w s2 rw => ?_⟩⟩
  obtain ⟨s3, r3⟩ := s2.rel.toV rw e3
  have ep2 : H2 p = some o := (s2.keep p (.inl rfl)).trans ep
  have s23 := s2.trans s3
  obtain ⟨a1, a2, a3⟩ := s23.rel.setO nf gi.1 gi.2 ep2 (HRep.le s23.vle ho)
  have b1 := a1.setV (i := j) (by rw [List.length_set]; exact gj.1) (by rw [pinned_set' gn]; exact gj.2) (Rep.le a2 r3)
  refine ⟨.ref p, w, rfl, k _ H2 ?_⟩
  exact Stp.trans (ρ1 := ρ3.set i (some (.o false d))) (σ1 := σ.set i (some (.ref p))) ⟨a1, kp.trans fun c hc' => s23.keep c (.inr hc'), vl.trans (s23.vle.trans a2), pn.trans (s23.pin.trans a3)⟩ b1
theorem ds_parVO {i j : Nat} {x y : Str} {a b : Expr} {m : EV} {n : FV} {px py pt pos : Pos} {kt k2 pt2} (hc : X.calm = true) (hN : X.N.Nodup) (hi : X.N[i]? = some x) (hj : X.N[j]? = some y) (hij : i ≠ j)
    (hx : X.env.scope.names.lookup x = some .local) (hy : X.env.scope.names.lookup y = some .local) (ha : DE X a m) (hb : DF X b n)
    (hw : swappedStores [.Tuple [.Name x px, .Name y py] kt pt] (.Tuple [a, b] k2 pt2) X.env = pure (some [x, y]))
    (hs : swapsWithSole [.Tuple [.Name x px, .Name y py] kt pt] (.Tuple [a, b] k2 pt2) pos.line X.env = pure false := by rfl)
    (h1 : starEach [a, b] X.env = (false, eval a X.env) :: starEach [b] X.env := by rfl) (h2 : starEach [b] X.env = (false, eval b X.env) :: starEach [] X.env := by rfl) :
    DS X (.Assign [.Tuple [.Name x px, .Name y py] kt pt] (.Tuple [a, b] k2 pt2) pos) (sParVO i j m n) := ps_weak (ps_par hc hN hi hj hij hx hy (pa_cons ha (pa_cons hb pa_nil h2) h1) hw hs) fun D σ H ⟨F, ρ, r, R, em, k⟩ => by
  obtain ⟨⟨z, ρ1⟩, e1, em⟩ := ob_inv em
  obtain ⟨⟨d, ρ2⟩, e2, em⟩ := ob_inv em
  obtain ⟨⟨y, ρ3⟩, e3, em⟩ := ob_inv em
  obtain ⟨g, em⟩ := grd_inv em
  cases em
  obtain ⟨gi, gj, gn⟩ := parOk_of g
  refine ⟨F, ρ, z, ρ1, R, e1, fun H1 w s1 rw => ⟨F, ρ1, d, ρ2, s1.rel, e2, fun H2 p o R2 ep ho nf kp vl pn => ?_⟩⟩
  obtain ⟨s3, r3⟩ := R2.toV (rw.le vl) e3
  have ep2 : H2 p = some o := ep
  obtain ⟨a1, a2, a3⟩ := s3.rel.setO nf gj.1 gj.2 ep2 (HRep.le s3.vle ho)
  have b1 := a1.setV (i := i) (by rw [List.length_set]; exact gi.1) (by rw [pinned_set' (Ne.symm gn)]; exact gi.2) (Rep.le a2 r3)
  refine ⟨w, .ref p, rfl, ?_⟩
  rw [List.set_comm _ _ gn]
  refine k _ H2 ?_
  exact Stp.trans (ρ1 := ρ3.set j (some (.o false d))) (σ1 := σ.set j (some (.ref p))) ⟨a1, s1.keep.trans kp, s1.vle.trans (vl.trans (s3.vle.trans a2)), s1.pin.trans (pn.trans (s3.pin.trans a3))⟩ b1
theorem ds_parOO {i j : Nat} {x y : Str} {a b : Expr} {m : FV} {n : FV} {px py pt pos : Pos} {kt k2 pt2} (hc : X.calm = true) (hN : X.N.Nodup) (hi : X.N[i]? = some x) (hj : X.N[j]? = some y) (hij : i ≠ j)
    (hx : X.env.scope.names.lookup x = some .local) (hy : X.env.scope.names.lookup y = some .local) (ha : DF X a m) (hb : DF X b n)
    (hw : swappedStores [.Tuple [.Name x px, .Name y py] kt pt] (.Tuple [a, b] k2 pt2) X.env = pure (some [x, y]))
    (hs : swapsWithSole [.Tuple [.Name x px, .Name y py] kt pt] (.Tuple [a, b] k2 pt2) pos.line X.env = pure false := by rfl)
    (h1 : starEach [a, b] X.env = (false, eval a X.env) :: starEach [b] X.env := by rfl) (h2 : starEach [b] X.env = (false, eval b X.env) :: starEach [] X.env := by rfl) :
    DS X (.Assign [.Tuple [.Name x px, .Name y py] kt pt] (.Tuple [a, b] k2 pt2) pos) (sParOO i j m n) := ps_weak (ps_par hc hN hi hj hij hx hy (pa_cons ha (pa_cons hb pa_nil h2) h1) hw hs) fun D σ H ⟨F, ρ, r, R, em, k⟩ => by
  obtain ⟨⟨d, ρ1⟩, e1, em⟩ := ob_inv em
  obtain ⟨⟨e, ρ2⟩, e2, em⟩ := ob_inv em
  obtain ⟨g, em⟩ := grd_inv em
  cases em
  obtain ⟨gi, gj, gn⟩ := parOk_of g
  refine ⟨F, ρ, d, ρ1, R, e1, fun H1 p o R1 ep ho nf kp vl pn => ⟨fp F p, ρ1, e, ρ2, R1, e2, fun H2 p2 o2 R2 ep2 ho2 nf2 kp2 vl2 pn2 => ?_⟩⟩
  have ep' : H2 p = some o := (kp2 p (.inl rfl)).trans ep
  obtain ⟨a1, a2, a3⟩ := R2.setO nf2 gj.1 gj.2 ep2 ho2
  obtain ⟨b1, b2, b3⟩ := a1.setO (i := i) nf (by rw [List.length_set]; exact gi.1) (by rw [pinned_set' (Ne.symm gn)]; exact gi.2) ep' (HRep.le (vl2.trans a2) ho)
  refine ⟨.ref p, .ref p2, rfl, ?_⟩
  rw [List.set_comm _ _ gn]
  exact k _ H2 ⟨b1, kp.trans fun c hc' => kp2 c (.inr hc'), vl.trans (vl2.trans (a2.trans b2)), pn.trans (pn2.trans (a3.trans b3))⟩
end
end DL

set_option Elab.async false
set_option linter.all false
set_option maxRecDepth 100000
namespace DL
open PySem PySem.Spec L2
set_option autoImplicit false
section
variable {X : Cx} {K : PySem.W.Frag}
/-! ### d[k] = v on a slot's own dict -/
def sSetDc (i : Nat) (mk m : EV) : SVt := fun ρ => grd (owned ρ i) (ob (m ρ) fun p => ob (mk p.2) fun q => ob (deref q.2 q.1) fun kd => ob (keyOf kd) fun key => ob (toV q.2 p.1) fun w => match w.2[i]? with
  | some (some (.o b (.dk kv))) => grd (decide (kv.length < 16777216)) (some (.nx (w.2.set i (some (.o b (.dk (putD kv key w.1)))))))
  | _ => none)
theorem ds_setDc {i : Nat} {x : Str} {k e : Expr} {mk m : EV} {px tp pos : Pos} (hu : X.A.units + 1 < cLine) (hN : X.N[i]? = some x) (hv : Vis X.env.scope x) (he : DE X e m) (hk : DE X k mk) (hd : (x == ("__debug__" : Str)) = false := by decide) (hcd : (x == ("__classdict__" : Str)) = false := by decide)
    (hs : swapsWith e (some (.Subscript (.Name x px) k tp)) pos.line X.env = pure false := by rfl) : DS X (.Assign [.Subscript (.Name x px) k tp] e pos) (sSetDc i mk m) :=
  ps_weak (ps_dput hu (pe_var hN hv hd hcd) hk he hs) fun D σ H ⟨F, ρ, r, R, em, kk⟩ => by
  obtain ⟨g, em⟩ := grd_inv em
  obtain ⟨a, ha0⟩ := R.owned g
  obtain ⟨⟨y, ρ1⟩, e1, em⟩ := ob_inv em
  obtain ⟨⟨kx, ρ2⟩, e2, em⟩ := ob_inv em
  obtain ⟨kd, e3, em⟩ := ob_inv em
  obtain ⟨key, ek, em⟩ := ob_inv em
  obtain ⟨⟨d, ρ3⟩, e4, em⟩ := ob_inv em
  simp only at em
  split at em
  · rename_i b kv hi
    obtain ⟨gl, em⟩ := grd_inv em
    cases em
    refine ⟨F, ρ, y, ρ1, R, e1, fun H1 v s1 r1 => ⟨.ref a, ha0, F, ρ1, kx, ρ2, s1.rel, e2, fun H2 u s2 r2 => ?_⟩⟩
    have t3 := (s2.rel.top r2 e3).key ek
    obtain ⟨s3, r3⟩ := s2.rel.toV (r1.le s2.vle) e4
    obtain ⟨a', o, g1, g2, g3, g4⟩ := s3.rel.own i b _ hi
    rw [ha0] at g1; cases g1
    cases o with
    | dK kw =>
      have kr : KRel X.K _ kw kv := g3
      have s4 := s3.rel.write (o' := .dK (putK kw key v)) (d' := .dk (putD kv key d)) hi ha0 (kr.put r3)
      exact ⟨a, _, rfl, .inl ⟨kw, key, g2, t3, by rw [kr.length, sizeLine_eq]; exact of_decide_eq_true gl, rfl⟩, kk σ _ (((s1.trans s2).trans s3).trans s4)⟩
    | _ => exact g3.elim
  · cases em
/-! ### d.get(k, x) -/
def isDk : D → Bool
  | .dk _ => true
  | _ => false
theorem isDk_of {d : D} (h : isDk d = true) : ∃ kv, d = .dk kv := by cases d <;> first | exact ⟨_, rfl⟩ | cases h
theorem getO_of {d : D} {key : Key} {z : A} {ρ : Env'} {r : A × Env'} (h : (match d with | .dk kv => (match valD kv key with | some v => some (A.v v, ρ) | none => some (z, ρ)) | _ => none) = some r) : ∃ kv, d = .dk kv ∧ ((∃ v, valD kv key = some v ∧ r = (.v v, ρ)) ∨ (valD kv key = none ∧ r = (z, ρ))) := by
  cases d <;> try cases h
  rename_i kv
  refine ⟨kv, rfl, ?_⟩
  replace h : (match valD kv key with | some v => some (A.v v, ρ) | none => some (z, ρ)) = some r := h
  cases e : valD kv key with
  | some v => rw [e] at h; cases h; exact .inl ⟨v, rfl, rfl⟩
  | none => rw [e] at h; cases h; exact .inr ⟨rfl, rfl⟩
def getO (d : D) (key : Key) (z : A) (ρ : Env') : Option (A × Env') := match d with
  | .dk kv => (match valD kv key with
    | some v => some (.v v, ρ)
    | none => some (z, ρ))
  | _ => none
def mGet2 (m n l : EV) : EV := fun ρ => ob (m ρ) fun p => ob (deref p.2 p.1) fun d0 => grd (isDk d0) (ob (n p.2) fun q => ob (l q.2) fun r => ob (deref r.2 p.1) fun d => ob (deref r.2 q.1) fun kd => ob (keyOf kd) fun key => getO d key r.1 r.2)
theorem de_get2 {o e f : Expr} {m n l : EV} {apos cpos : Pos} (hu : X.A.units + 1 < cLine) (ho : DE X o m) (he : DE X e n) (hf : DE X f l) (mm : M2 X o "get" apos e f cpos := by exact ⟨by rfl, by rfl, by rfl, by rfl⟩) : DE X (.Call (.Attribute o "get" apos) [e, f] [] cpos) (mGet2 m n l) :=
  pe_weak (pe_dget2 hu ho he hf mm) fun σ H Q ⟨F, ρ, z, ρ', R, em, k⟩ => by
  obtain ⟨⟨x1, ρ1⟩, e1, em⟩ := ob_inv em
  obtain ⟨d0, e2, em⟩ := ob_inv em
  obtain ⟨g0, em⟩ := grd_inv em
  obtain ⟨⟨y1, ρ2⟩, e3, em⟩ := ob_inv em
  obtain ⟨⟨z1, ρ3⟩, e4, em⟩ := ob_inv em
  obtain ⟨d, e5, em⟩ := ob_inv em
  obtain ⟨kd, e6, em⟩ := ob_inv em
  obtain ⟨key, e7, emF⟩ := ob_inv em
  obtain ⟨kv0, rfl⟩ := isDk_of g0
  obtain ⟨kv, rfl, emG⟩ := getO_of emF
  refine ⟨F, ρ, x1, ρ1, R, e1, fun H1 v s1 r1 => ?_⟩
  obtain ⟨a, kw0, rfl, rd0, _⟩ := (s1.rel.top r1 e2).dkr
  refine ⟨a, rfl, .inl ⟨kw0, rd0⟩, F, ρ1, y1, ρ2, s1.rel, e3, fun H2 u s2 r2 => ⟨F, ρ2, z1, ρ3, s2.rel, e4, fun H3 t s3 r3 => ?_⟩⟩
  obtain ⟨a', kw, ea, rd, kr⟩ := (s3.rel.top ((r1.le s2.vle).le s3.vle) e5).dkr
  cases ea
  have hk := (s3.rel.top (r2.le s3.vle) e6).key e7
  rcases KRel.val (k := key) kr with ⟨w, d', q1, q2, q3⟩ | ⟨q1, q2⟩
  · rcases emG with ⟨v', p1, p2⟩ | ⟨p1, _⟩
    · rw [q2] at p1
      cases p1
      cases p2
      exact ⟨some w, .inl ⟨kw, key, rd, hk, q1.symm⟩, k H3 w ((s1.trans s2).trans s3) q3⟩
    · rw [q2] at p1; cases p1
  · rcases emG with ⟨v', p1, _⟩ | ⟨_, p2⟩
    · rw [q2] at p1; cases p1
    · cases p2
      exact ⟨none, .inl ⟨kw, key, rd, hk, q1.symm⟩, k H3 t ((s1.trans s2).trans s3) r3⟩
/-! ### k in d, k not in d -/
def inDc : D → D → Option D
  | d, .dk kv => ob (keyOf d) fun k => some (.bl (valD kv k).isSome)
  | _, _ => none
def notInDc : D → D → Option D
  | d, .dk kv => ob (keyOf d) fun k => some (.bl (!(valD kv k).isSome))
  | _, _ => none
theorem din {m n : EV} {σ : St} {H : Hp} {Q : VK} (h : tD K (m2 inDc m n) σ H Q) : tDIn (tD K m) (tD K n) σ H Q := by
  obtain ⟨F, ρ, z, ρ', R, em, k⟩ := h
  obtain ⟨x1, ρ1, e1, em⟩ := bd_inv em
  obtain ⟨y1, ρ2, e2, em⟩ := bd_inv em
  obtain ⟨d, e3, em⟩ := ob_inv em
  obtain ⟨e, e4, em⟩ := ob_inv em
  obtain ⟨z, e5, em⟩ := ob_inv em
  cases em
  refine ⟨F, ρ, x1, ρ1, R, e1, fun H1 v s1 r1 => ⟨F, ρ1, y1, _, s1.rel, e2, fun H2 u s2 r2 => ?_⟩⟩
  unfold inDc at e5
  split at e5
  · obtain ⟨key, ek, ev⟩ := ob_inv e5
    cases ev
    have hk := (s2.rel.top (r1.le s2.vle) e3).key ek
    obtain ⟨a, kw, rfl, rd, kr⟩ := (s2.rel.top r2 e4).dkr
    rcases KRel.val (k := key) kr with ⟨w, d', q1, q2, q3⟩ | ⟨q1, q2⟩
    · refine ⟨a, some w, rfl, .inl ⟨kw, key, rd, hk, q1.symm⟩, ?_⟩
      exact k H2 _ (s1.trans s2) (by rw [q2]; exact .bl _)
    · refine ⟨a, none, rfl, .inl ⟨kw, key, rd, hk, q1.symm⟩, ?_⟩
      exact k H2 _ (s1.trans s2) (by rw [q2]; exact .bl _)
  · cases e5
theorem dnotin {m n : EV} {σ : St} {H : Hp} {Q : VK} (h : tD K (m2 notInDc m n) σ H Q) : tDNotIn (tD K m) (tD K n) σ H Q := by
  obtain ⟨F, ρ, z, ρ', R, em, k⟩ := h
  obtain ⟨x1, ρ1, e1, em⟩ := bd_inv em
  obtain ⟨y1, ρ2, e2, em⟩ := bd_inv em
  obtain ⟨d, e3, em⟩ := ob_inv em
  obtain ⟨e, e4, em⟩ := ob_inv em
  obtain ⟨z, e5, em⟩ := ob_inv em
  cases em
  refine ⟨F, ρ, x1, ρ1, R, e1, fun H1 v s1 r1 => ⟨F, ρ1, y1, _, s1.rel, e2, fun H2 u s2 r2 => ?_⟩⟩
  unfold notInDc at e5
  split at e5
  · obtain ⟨key, ek, ev⟩ := ob_inv e5
    cases ev
    have hk := (s2.rel.top (r1.le s2.vle) e3).key ek
    obtain ⟨a, kw, rfl, rd, kr⟩ := (s2.rel.top r2 e4).dkr
    rcases KRel.val (k := key) kr with ⟨w, d', q1, q2, q3⟩ | ⟨q1, q2⟩
    · refine ⟨a, some w, rfl, .inl ⟨kw, key, rd, hk, q1.symm⟩, ?_⟩
      exact k H2 _ (s1.trans s2) (by rw [q2]; exact .bl _)
    · refine ⟨a, none, rfl, .inl ⟨kw, key, rd, hk, q1.symm⟩, ?_⟩
      exact k H2 _ (s1.trans s2) (by rw [q2]; exact .bl _)
  · cases e5
theorem de_din {a b : Expr} {m n : EV} {pos : Pos} (hu : X.A.units + 1 < cLine) (ha : DE X a m) (hb : DE X b n) (h1 : behindInMarks .In b = false := by with_unfolding_all rfl) : DE X (.Compare a [.In] [b] pos) (m2 inDc m n) := pe_weak (pe_cmp (pc_din hu ha hb) h1) fun _ _ _ h => din h
theorem de_dnotin {a b : Expr} {m n : EV} {pos : Pos} (hu : X.A.units + 1 < cLine) (ha : DE X a m) (hb : DE X b n) (h1 : behindInMarks .NotIn b = false := by with_unfolding_all rfl) : DE X (.Compare a [.NotIn] [b] pos) (m2 notInDc m n) := pe_weak (pe_cmp (pc_dnotin hu ha hb) h1) fun _ _ _ h => dnotin h
theorem dt_din {a b : Expr} {m n : EV} {pos : Pos} (hu : X.A.units + 1 < cLine) (ha : DE X a m) (hb : DE X b n) (h1 : behindInMarks .In b = false := by with_unfolding_all rfl) : DT X (.Compare a [.In] [b] pos) (mT (m2 inDc m n)) := pt_weak (pt_cmp (pc_din hu ha hb) h1) fun _ _ _ h => by
  obtain ⟨F, ρ, x, ρ', R, em, k⟩ := tst h
  exact din ⟨F, ρ, x, ρ', R, em, k⟩
theorem dt_dnotin {a b : Expr} {m n : EV} {pos : Pos} (hu : X.A.units + 1 < cLine) (ha : DE X a m) (hb : DE X b n) (h1 : behindInMarks .NotIn b = false := by with_unfolding_all rfl) : DT X (.Compare a [.NotIn] [b] pos) (mT (m2 notInDc m n)) := pt_weak (pt_cmp (pc_dnotin hu ha hb) h1) fun _ _ _ h => by
  obtain ⟨F, ρ, x, ρ', R, em, k⟩ := tst h
  exact dnotin ⟨F, ρ, x, ρ', R, em, k⟩
/-! ### {} -/
def mNewD : FV := fun ρ => some (.dk [], ρ)
theorem df_newD {pos : Pos} : DF X (.Dict [] [] pos) mNewD := pe_weak pe_dnewK fun σ H Q ⟨F, ρ, d, ρ', R, em, k⟩ => fun p hp => by
  cases em
  obtain ⟨a, b, c, d, e, f, g⟩ := (Stp.refl R).newF hp (o := .dK []) (d := .dk []) ⟨rfl, .nil⟩
  exact k _ p _ a b c d e f g
end
end DL

set_option Elab.async false
set_option linter.all false
set_option maxRecDepth 100000
namespace DL
open PySem PySem.Spec L2
set_option autoImplicit false
/-! ### for k, v in d.items() -/
def keyD : Key → D
  | .inl i => .int i
  | .inr x => .str x
def itemsD (kv : List (Key × D)) : List D := kv.map fun e => .tup [keyD e.1, e.2]
section
variable {X : Cx} {K : PySem.W.Frag} {F : Fr0} {ρ ρ2 : Env'} {σ σ' : St} {H H' : Hp} {a : Addr} {od : Obj} {kw : List (Key × V)}
theorem rep_key {G : Hp} (k : Key) : Rep K G (kV k) (keyD k) := by cases k <;> first | exact .int _ | exact .str _
theorem KRel.get {G : Hp} {kv : List (Key × D)} (h : KRel K G kw kv) {i : Nat} {k : Key} {v : V} (e : kw[i]? = some (k, v)) : ∃ d, kv[i]? = some (k, d) ∧ Rep K G v d := by
  have hi : i < kv.length := by rw [← h.length]; exact (List.getElem?_eq_some_iff.mp e).1
  have e1 := congrArg (fun l => l[i]?) h.1
  simp only [List.getElem?_map, e, List.getElem?_eq_getElem hi, Option.map_some, Option.some.injEq] at e1
  obtain ⟨v', g1, g2⟩ := h.2.get (i := i) (d := kv[i].2) (by rw [List.getElem?_map, List.getElem?_eq_getElem hi]; rfl)
  rw [List.getElem?_map, e] at g1
  simp only [Option.map_some, Option.some.injEq] at g1
  subst g1
  exact ⟨kv[i].2, by rw [List.getElem?_eq_getElem hi, e1], g2⟩
theorem itw_items {kv : List (Key × D)} (e : vis F ρ σ H a = some (.frz od (.dK kw))) (r : KRel K (vis F ρ σ H) kw kv) : ItW K F ρ σ H (Iti a od kw) (itemsD kv) := by
  have q : ∀ ρ' σ' H', Vle (vis F ρ σ H) (vis F ρ' σ' H') → H' a = some (.frz od (.dK kw)) := fun ρ' σ' H' m => (hid_some (m.fk a od kw e)).1
  have hl : (itemsD kv).length = kw.length := by unfold itemsD; rw [List.length_map, r.length]
  refine ⟨fun i ρ' σ' H' R m hi => ⟨q _ _ _ m, by omega⟩, fun i ρ' σ' H' R m hi => ⟨q _ _ _ m, by omega⟩, fun i ρ' σ' H' x H2 R m hi y => ?_⟩
  obtain ⟨T, k, v, g1, rfl, hT, rfl⟩ := y
  obtain ⟨d, g2, g3⟩ := r.get g1
  obtain ⟨s1, r1⟩ := newPair R hT (rep_key k) (Rep.le m g3)
  exact ⟨s1, _, by unfold itemsD; rw [List.getElem?_map, g2]; rfl, r1⟩
/-- the loop, its source told -/
theorem forD0 {g : GV} {b : SVt} {ws : List Nat} {N : Ends} {items : List D} {r : Res} {J : It} (R : Rel K F ρ σ H) (I : ItW K F ρ σ H J items) (em : forL g b items ρ = some r) (k : RPost K F ρ σ H N r) : tFor (fun _ _ Q => Q J H) (tDG K ws g) (tDS K b) N σ H := by
  refine ⟨fun i m τ H2 => m = items.length - i ∧ i ≤ items.length ∧ ∃ ρ2, Rel K F ρ2 τ H2 ∧ Vle (vis F ρ σ H) (vis F ρ2 τ H2) ∧ forL g b (items.drop i) ρ2 = some r ∧ RPost K F ρ2 τ H2 N r,
    ⟨items.length, by simp, Nat.zero_le _, ρ, R, .refl _, by rw [List.drop_zero]; exact em, k⟩, ?_⟩
  rintro i m τ H2 ⟨rfl, hi, ρ2, R2, vl, e2, k2⟩
  by_cases hlt : i < items.length
  · have hd : items.drop i = items[i] :: items.drop (i + 1) := List.drop_eq_getElem_cons hlt
    rw [hd] at e2
    refine .inr ⟨I.go i ρ2 τ H2 R2 vl hlt, fun σ3 H3 => ∃ ρ3, Rel K F ρ3 σ3 H3 ∧ Vle (vis F ρ σ H) (vis F ρ3 σ3 H3) ∧ forL g b (items.drop (i + 1)) ρ3 = some r ∧ RPost K F ρ3 σ3 H3 N r,
      fun σ3 H3 ⟨ρ3, a1, a2, a3, a4⟩ => ⟨items.length - (i + 1), by omega, rfl, hlt, ρ3, a1, a2, a3, a4⟩, fun x H3 y => ?_⟩
    obtain ⟨s3, d, hd', rd⟩ := I.yld i ρ2 τ H2 x H3 R2 vl hlt y
    rw [List.getElem?_eq_getElem hlt] at hd'
    cases hd'
    simp only [forL] at e2
    split at e2
    · rename_i ρ3 eg
      refine ⟨F, ρ2, _, ρ3, s3.rel, rd, eg, fun σ4 H4 s4 _ => ?_⟩
      have s34 := s3.trans s4
      split at e2
      · rename_i ρ5 eb
        exact ⟨F, ρ3, _, s4.rel, eb, fun σ5 H5 s5 => ⟨ρ5, s5.rel, vl.trans (s34.trans s5).vle, e2, k2.step (s34.trans s5)⟩⟩
      · rename_i ρ5 eb
        exact ⟨F, ρ3, _, s4.rel, eb, fun σ5 H5 s5 => ⟨ρ5, s5.rel, vl.trans (s34.trans s5).vle, e2, k2.step (s34.trans s5)⟩⟩
      · rename_i ρ5 eb
        cases e2
        exact ⟨F, ρ3, _, s4.rel, eb, fun σ5 H5 s5 => k2 σ5 H5 (s34.trans s5)⟩
      · rename_i d' ρ5 eb
        cases e2
        exact ⟨F, ρ3, _, s4.rel, eb, fun σ5 H5 v s5 rv => k2 σ5 H5 v (s34.trans s5) rv⟩
      · cases e2
    · cases e2
  · have e : i = items.length := by omega
    subst e
    rw [List.drop_length] at e2
    cases e2
    exact .inl ⟨I.stop _ ρ2 τ H2 R2 vl (Nat.le_refl _), k2 τ H2 (.refl R2)⟩
/-- locked and let go again -/
theorem lock_vle (e : vis F ρ σ H a = some (.dK kw)) : Vle (vis F ρ σ H) (vis F ρ σ (upd H a (.frz od (.dK kw)))) := by
  have ha := (hid_some e).2
  have hv : ∀ c, c ≠ a → vis F ρ σ (upd H a (.frz od (.dK kw))) c = vis F ρ σ H c := fun c hc => by
    by_cases q : fo F ρ σ c
    · rw [vis_in q, vis_in q]
    · rw [vis_out q, vis_out q, upd_ne hc]
  have hva : vis F ρ σ (upd H a (.frz od (.dK kw))) a = some (.frz od (.dK kw)) := by rw [vis_out ha, upd_same]
  refine ⟨⟨fun c u hx h => ?_, fun c kw' h => ?_, fun c kw' h => ?_⟩, fun c o kw' h => ?_, fun c o kw' h => ?_⟩
  · have hc : c ≠ a := fun q => by rw [q, e] at h; cases h; exact hx
    rw [hv c hc]; exact h
  · by_cases hc : c = a
    · subst hc
      rcases h with h | ⟨o, h⟩
      · rw [e] at h; cases h; exact .inr ⟨od, hva⟩
      · rw [e] at h; cases h
    · unfold Rd; rw [hv c hc]; exact h
  · by_cases hc : c = a
    · subst hc
      rcases h with h | ⟨o, h⟩ <;> (rw [e] at h; cases h)
    · unfold Rd; rw [hv c hc]; exact h
  · have hc : c ≠ a := fun q => by rw [q, e] at h; cases h
    rw [hv c hc]; exact h
  · have hc : c ≠ a := fun q => by rw [q, e] at h; cases h
    rw [hv c hc]; exact h
theorem lock_rel (R : Rel K F ρ σ H) (e : vis F ρ σ H a = some (.dK kw)) : Rel K F ρ σ (upd H a (.frz od (.dK kw))) := by
  have ha := (hid_some e).2
  refine R.move (lock_vle e).toVleW (fun c hc => upd_ne fun q => ha (.inr (by rw [q] at hc; exact hc))) (fun _ _ h => h) fun c hc => ?_
  have hca : c ≠ a := fun q => ha (.inl (by rw [q] at hc; exact hc))
  rw [upd_ne hca]
  exact R.alo c hc
/-- undone behind a step -/
theorem unlock (e : vis F ρ σ H a = some (.dK kw)) (s : Stp K F ρ ρ2 σ σ' (upd H a (.frz od (.dK kw))) H') : H' a = some (.frz od (.dK kw)) ∧ Stp K F ρ ρ2 σ σ' H (upd H' a (.dK kw)) ∧ VleW (vis F ρ2 σ' H') (vis F ρ2 σ' (upd H' a (.dK kw))) := by
  have ha := (hid_some e).2
  have hva : vis F ρ σ (upd H a (.frz od (.dK kw))) a = some (.frz od (.dK kw)) := by rw [vis_out ha, upd_same]
  have e2 := s.vle.fk a od kw hva
  obtain ⟨e3, ha2⟩ := hid_some e2
  have hv : ∀ c, c ≠ a → vis F ρ2 σ' (upd H' a (.dK kw)) c = vis F ρ2 σ' H' c := fun c hc => by
    by_cases q : fo F ρ2 σ' c
    · rw [vis_in q, vis_in q]
    · rw [vis_out q, vis_out q, upd_ne hc]
  have hva2 : vis F ρ2 σ' (upd H' a (.dK kw)) a = some (.dK kw) := by rw [vis_out ha2, upd_same]
  have w : VleW (vis F ρ2 σ' H') (vis F ρ2 σ' (upd H' a (.dK kw))) := by
    refine ⟨fun c u hx h => ?_, fun c kw' h => ?_, fun c kw' h => ?_⟩
    · have hc : c ≠ a := fun q => by rw [q, e2] at h; cases h; exact hx
      rw [hv c hc]; exact h
    · by_cases hc : c = a
      · subst hc
        rcases h with h | ⟨o, h⟩
        · rw [e2] at h; cases h
        · rw [e2] at h; cases h; exact .inl hva2
      · unfold Rd; rw [hv c hc]; exact h
    · by_cases hc : c = a
      · subst hc
        rcases h with h | ⟨o, h⟩ <;> (rw [e2] at h; cases h)
      · unfold Rd; rw [hv c hc]; exact h
  refine ⟨e3, ⟨?_, fun c hc => ?_, ?_, s.pin⟩, w⟩
  · refine s.rel.move w (fun c hc => upd_ne fun q => ha2 (.inr (by rw [q] at hc; exact hc))) (fun _ _ h => h) fun c hc => ?_
    have hca : c ≠ a := fun q => ha2 (.inl (by rw [q] at hc; exact hc))
    rw [upd_ne hca]
    exact s.rel.alo c hc
  · have hca : c ≠ a := fun q => ha2 (.inl (by rw [q] at hc; exact hc))
    rw [upd_ne hca, s.keep c hc, upd_ne hca]
  · refine ⟨((lock_vle (od := od) e).toVleW.trans s.vle.toVleW).trans w, fun c o kw' h => ?_, fun c o kw' h => ?_⟩
    · have hc : c ≠ a := fun q => by rw [q, e] at h; cases h
      rw [hv c hc]
      exact s.vle.fk c o kw' ((lock_vle (od := od) e).fk c o kw' h)
    · have hc : c ≠ a := fun q => by rw [q, e] at h; cases h
      rw [hv c hc]
      exact s.vle.ft c o kw' ((lock_vle (od := od) e).ft c o kw' h)
def sForI (i : Nat) (g : GV) (b : SVt) : SVt := fun ρ => ob (toV ρ (.s i)) fun q => match q.1 with
  | .dk kv => forL g b (itemsD kv) q.2
  | _ => none
theorem ps_or' {st : Stmt} {t t' : TS} (h : PS X st t) (h' : PS X st t') : PS X st (fun N σ H => t N σ H ∨ t' N σ H) := ⟨fun pins s σ H N I q => q.elim (h.run pins s σ H N I) (h'.run pins s σ H N I)⟩
theorem ds_forItems {i : Nat} {x : Str} {elts : List Expr} {kk : Nat} {tpos px apos cpos pos : Pos} {body : List Stmt} {ws : List Nat} {g : GV} {b : SVt} (hp : PassesOwn (model X.prog X.w) X.A X.env X.xe) (hc : X.calm = true)
    (hN : X.N[i]? = some x) (hv : Vis X.env.scope x) (hg : DG X (.Tuple elts kk tpos) ws g) (hb : DSs X body b) (hd : (x == ("__debug__" : Str)) = false := by decide) (hcd : (x == ("__classdict__" : Str)) = false := by decide)
    (hbase : attributeBase (.Name x px) "items" X.env (eval (.Name x px) X.env) = eval (.Name x px) X.env := by rfl) (hline : (apos.endLine == cpos.line) = true := by rfl)
    (hs : ∀ y, foldedSetIterable (.Call (.Attribute (.Name x px) "items" apos) [] [] cpos) X.env y = pure y := by intro _; rfl) :
    DS X (.For (.Tuple elts kk tpos) (.Call (.Attribute (.Name x px) "items" apos) [] [] cpos) body [] pos) (sForI i g b) :=
  let P := ps_for hp hc (pi_items (elts := elts) (kk := kk) (tpos := tpos) (pe_var hN hv hd hcd) hbase hline) hg hb hs
  ps_weak (ps_or' (ps_lock P) P) fun N σ H ⟨F, ρ, r, R, em, k⟩ => by
  obtain ⟨⟨d, ρ1⟩, e1, em⟩ := ob_inv em
  simp only at em
  split at em
  · rename_i kv
    obtain ⟨v, hσ⟩ : ∃ v, σ[i]? = some (some v) := by
      rcases h : ρ[i]? with _ | _ | d0 | ⟨b0, d0⟩
      · simp only [toV, h] at e1; cases e1
      · simp only [toV, h] at e1; cases e1
      · obtain ⟨v, q, _⟩ := R.val i d0 h; exact ⟨v, q⟩
      · obtain ⟨a, o, q, _⟩ := R.own i b0 d0 h; exact ⟨_, q⟩
    obtain ⟨s1, r1⟩ := R.toV (x := .s i) hσ e1
    have k1 := k.step s1
    cases r1 with
    | @dk a kw _ rd e2 r2 =>
      have kr : KRel X.K (vis F ρ1 σ H) kw kv := ⟨e2, r2⟩
      rcases rd with e | ⟨od, e⟩
      · left
        refine ⟨a, .dK kw, (hid_some e).1, trivial, fun od => ⟨.ref a, hσ, a, od, kw, rfl, upd_same, ?_⟩⟩
        have R2 := lock_rel (od := od) s1.rel e
        have vl := lock_vle (od := od) e
        have hva : vis F ρ1 σ (upd H a (.frz od (.dK kw))) a = some (.frz od (.dK kw)) := by rw [vis_out (hid_some e).2, upd_same]
        refine forD0 (ws := ws) (r := r) R2 (itw_items hva (kr.le vl)) em ?_
        cases r with
        | nx ρ' => exact fun σ' H' s => let ⟨u1, u2, _⟩ := unlock e s; ⟨u1, k1 σ' _ u2⟩
        | rt d ρ' => exact fun σ' H' v s rv => let ⟨u1, u2, u3⟩ := unlock e s; ⟨u1, k1 σ' _ v u2 (Rep.leW u3 rv)⟩
        | bk ρ' => exact fun σ' H' s => let ⟨u1, u2, _⟩ := unlock e s; ⟨u1, k1 σ' _ u2⟩
        | ct ρ' => exact fun σ' H' s => let ⟨u1, u2, _⟩ := unlock e s; ⟨u1, k1 σ' _ u2⟩
      · right
        exact ⟨.ref a, hσ, a, od, kw, rfl, (hid_some e).1, forD0 (ws := ws) (r := r) s1.rel (itw_items e kr) em k1⟩
  · cases em
end
end DL

set_option Elab.async false
set_option linter.all false
set_option maxRecDepth 100000
namespace DL
open PySem PySem.Spec L2
set_option autoImplicit false
section
variable {X : Cx} {K : PySem.W.Frag}
/-! ### {k: v} -/
def mDisp1 (mk mv : EV) : FV := fun ρ => ob (mk ρ) fun q => ob (mv q.2) fun r => ob (deref r.2 q.1) fun kd => ob (keyOf kd) fun key => ob (toV r.2 r.1) fun y => some (.dk [(key, y.1)], y.2)
theorem df_disp1 {k v : Expr} {mk mv : EV} {pos : Pos} (hk : DE X k mk) (hv : DE X v mv) : DF X (.Dict [some k] [v] pos) (mDisp1 mk mv) :=
  pe_weak (pe_disp (pps_cons hk hv pps_nil) rfl rfl (by simp) (by simp)) fun σ H Q ⟨F, ρ, d, ρ', R, em, kk⟩ => fun p hp => by
  obtain ⟨⟨q, ρ1⟩, e1, em⟩ := ob_inv em
  obtain ⟨⟨r, ρ2⟩, e2, em⟩ := ob_inv em
  obtain ⟨kd, e3, em⟩ := ob_inv em
  obtain ⟨key, e4, em⟩ := ob_inv em
  obtain ⟨⟨y, ρ3⟩, e5, em⟩ := ob_inv em
  cases em
  obtain ⟨R1, kp1, vl1⟩ := R.allocF hp (.dK [])
  refine ⟨fp F p, ρ, q, ρ1, R1, e1, fun H1 u s1 r1 => ⟨fp F p, ρ1, r, ρ2, s1.rel, e2, fun H2 w s2 r2 => ?_⟩⟩
  have hkk := (s2.rel.top (r1.le s2.vle) e3).key e4
  obtain ⟨s3, r3⟩ := s2.rel.toV r2 e5
  have s13 := (s1.trans s2).trans s3
  have ep : H2 p = some (.dK []) := by rw [s13.keep p (.inl rfl), upd_same]
  obtain ⟨b1, b2⟩ := s3.rel.poke (o := .dK [(key, w)])
  refine ⟨ep, [(key, w)], by rw [hkk]; rfl, by simp, ?_⟩
  have em' : mergeK [] [(key, w)] = [(key, w)] := rfl
  rw [em']
  refine kk _ p (.dK [(key, w)]) b1 upd_same ?_ (fun z => R.alo p z hp) (fun c hc => ?_) ?_ s13.pin
  · rw [b2]
    exact ⟨rfl, .cons r3 .nil⟩
  · have hc' : c ≠ p := fun z => R.alo c hc (by rw [z]; exact hp)
    rw [upd_ne hc', s13.keep c (.inr hc), upd_ne hc']
  · rw [b2]
    exact vl1.trans s13.vle
end
end DL

set_option Elab.async false
set_option linter.all false
set_option maxRecDepth 100000
namespace DL
open PySem PySem.Spec L2
set_option autoImplicit false
/-! ### a, b = x, y by way of a tuple, with new objects of their own -/
section
variable {X : Cx} {K : PySem.W.Frag}
theorem two_line {v w : V} : [v, w].length ≤ sizeLine := by rw [sizeLine_eq]; exact (show (2 : Nat) ≤ 16777216 by decide)
theorem ds_parOVT {i j : Nat} {x y : Str} {a b : Expr} {m : FV} {n : EV} {px py pt pos : Pos} {kt k2 pt2} (hc : X.calm = true) (hN : X.N.Nodup) (hi : X.N[i]? = some x) (hj : X.N[j]? = some y)
    (hx : Loc X.env.scope x) (hy : Loc X.env.scope y) (ha : DF X a m) (hb : DE X b n)
    (hfx : X.fn x = true ∨ X.env.scope.names.lookup x = some .local := by first | exact .inl rfl | exact .inr rfl) (hfy : X.fn y = true ∨ X.env.scope.names.lookup y = some .local := by first | exact .inl rfl | exact .inr rfl)
    (hs : swapsWithSole [.Tuple [.Name x px, .Name y py] kt pt] (.Tuple [a, b] k2 pt2) pos.line X.env = pure false := by rfl) (hw : swappedStores [.Tuple [.Name x px, .Name y py] kt pt] (.Tuple [a, b] k2 pt2) X.env = pure none := by rfl)
    (h1 : starEach [a, b] X.env = (false, eval a X.env) :: starEach [b] X.env := by rfl) (h2 : starEach [b] X.env = (false, eval b X.env) :: starEach [] X.env := by rfl)
    (g1 : (assignEach [.Name x px, .Name y py] X.env).map (·.2) = assign (.Name x px) X.env :: (assignEach [.Name y py] X.env).map (·.2) := by rfl) (g2 : (assignEach [.Name y py] X.env).map (·.2) = assign (.Name y py) X.env :: (assignEach [] X.env).map (·.2) := by rfl)
    (g3 : (assignEach [.Name x px, .Name y py] X.env).length = 2 := by rfl) (g4 : (assignEach [.Name x px, .Name y py] X.env).findIdx? (·.1) = none := by rfl) (g5 : (assignEach [.Tuple [.Name x px, .Name y py] kt pt] X.env).map (·.2) = [assign (.Tuple [.Name x px, .Name y py] kt pt) X.env] := by rfl) :
    DS X (.Assign [.Tuple [.Name x px, .Name y py] kt pt] (.Tuple [a, b] k2 pt2) pos) (sParOV i j m n) :=
  ps_weak (ps_asg (pe_tup (pa_cons ha (pa_cons hb pa_nil h2) h1)) (pg_tup hc (pgs_cons (pg_name hN hi hx hfx) (pgs_cons (pg_name hN hj hy hfy) pgs_nil g2) g1) g3 g4) hs hw g5) fun D σ H ⟨F, ρ, r, R, em, k⟩ => by
  obtain ⟨⟨d, ρ1⟩, e1, em⟩ := ob_inv em
  obtain ⟨⟨z, ρ2⟩, e2, em⟩ := ob_inv em
  obtain ⟨⟨y, ρ3⟩, e3, em⟩ := ob_inv em
  obtain ⟨g, em⟩ := grd_inv em
  cases em
  obtain ⟨gi, gj, gn⟩ := parOk_of g
  refine ⟨F, ρ, d, ρ1, R, e1, fun H1 p o R1 ep ho nf kp vl pn => ⟨fp F p, ρ1, z, ρ2, R1, e2, fun H2 w s2 rw => ⟨two_line, fun T hT => ?_⟩⟩⟩
  obtain ⟨s3, r3⟩ := s2.rel.toV rw e3
  have sA := s3.rel.alloc hT (.tup [.ref p, w])
  have s23 := (s2.trans s3).trans sA
  have ep2 := (s23.keep p (.inl rfl)).trans ep
  obtain ⟨a1, a2, a3⟩ := s23.rel.setO nf gi.1 gi.2 ep2 (HRep.le s23.vle ho)
  have b1 := a1.setV (i := j) (by rw [List.length_set]; exact gj.1) (by rw [pinned_set' gn]; exact gj.2) (Rep.le (sA.vle.trans a2) r3)
  refine ⟨T, _, rfl, .inl (.inl upd_same), rfl, _, _, rfl, _, _, rfl, rfl, k _ _ ?_⟩
  exact Stp.trans (ρ1 := ρ3.set i (some (.o false d))) (σ1 := σ.set i (some (.ref p))) ⟨a1, kp.trans fun c hc' => s23.keep c (.inr hc'), vl.trans (s23.vle.trans a2), pn.trans (s23.pin.trans a3)⟩ b1
theorem ds_parVOT {i j : Nat} {x y : Str} {a b : Expr} {m : EV} {n : FV} {px py pt pos : Pos} {kt k2 pt2} (hc : X.calm = true) (hN : X.N.Nodup) (hi : X.N[i]? = some x) (hj : X.N[j]? = some y)
    (hx : Loc X.env.scope x) (hy : Loc X.env.scope y) (ha : DE X a m) (hb : DF X b n)
    (hfx : X.fn x = true ∨ X.env.scope.names.lookup x = some .local := by first | exact .inl rfl | exact .inr rfl) (hfy : X.fn y = true ∨ X.env.scope.names.lookup y = some .local := by first | exact .inl rfl | exact .inr rfl)
    (hs : swapsWithSole [.Tuple [.Name x px, .Name y py] kt pt] (.Tuple [a, b] k2 pt2) pos.line X.env = pure false := by rfl) (hw : swappedStores [.Tuple [.Name x px, .Name y py] kt pt] (.Tuple [a, b] k2 pt2) X.env = pure none := by rfl)
    (h1 : starEach [a, b] X.env = (false, eval a X.env) :: starEach [b] X.env := by rfl) (h2 : starEach [b] X.env = (false, eval b X.env) :: starEach [] X.env := by rfl)
    (g1 : (assignEach [.Name x px, .Name y py] X.env).map (·.2) = assign (.Name x px) X.env :: (assignEach [.Name y py] X.env).map (·.2) := by rfl) (g2 : (assignEach [.Name y py] X.env).map (·.2) = assign (.Name y py) X.env :: (assignEach [] X.env).map (·.2) := by rfl)
    (g3 : (assignEach [.Name x px, .Name y py] X.env).length = 2 := by rfl) (g4 : (assignEach [.Name x px, .Name y py] X.env).findIdx? (·.1) = none := by rfl) (g5 : (assignEach [.Tuple [.Name x px, .Name y py] kt pt] X.env).map (·.2) = [assign (.Tuple [.Name x px, .Name y py] kt pt) X.env] := by rfl) :
    DS X (.Assign [.Tuple [.Name x px, .Name y py] kt pt] (.Tuple [a, b] k2 pt2) pos) (sParVO i j m n) :=
  ps_weak (ps_asg (pe_tup (pa_cons ha (pa_cons hb pa_nil h2) h1)) (pg_tup hc (pgs_cons (pg_name hN hi hx hfx) (pgs_cons (pg_name hN hj hy hfy) pgs_nil g2) g1) g3 g4) hs hw g5) fun D σ H ⟨F, ρ, r, R, em, k⟩ => by
  obtain ⟨⟨z, ρ1⟩, e1, em⟩ := ob_inv em
  obtain ⟨⟨d, ρ2⟩, e2, em⟩ := ob_inv em
  obtain ⟨⟨y, ρ3⟩, e3, em⟩ := ob_inv em
  obtain ⟨g, em⟩ := grd_inv em
  cases em
  obtain ⟨gi, gj, gn⟩ := parOk_of g
  refine ⟨F, ρ, z, ρ1, R, e1, fun H1 w s1 rw => ⟨F, ρ1, d, ρ2, s1.rel, e2, fun H2 p o R2 ep ho nf kp vl pn => ⟨two_line, fun T hT => ?_⟩⟩⟩
  obtain ⟨s3, r3⟩ := R2.toV (rw.le vl) e3
  have sA := s3.rel.alloc hT (.tup [w, .ref p])
  have s23 := s3.trans sA
  have ep2 := (s23.keep p (.inl rfl)).trans ep
  obtain ⟨a1, a2, a3⟩ := s23.rel.setO nf gj.1 gj.2 ep2 (HRep.le s23.vle ho)
  have b1 := a1.setV (i := i) (by rw [List.length_set]; exact gi.1) (by rw [pinned_set' (Ne.symm gn)]; exact gi.2) (Rep.le (sA.vle.trans a2) r3)
  refine ⟨T, _, rfl, .inl (.inl upd_same), rfl, _, _, rfl, _, _, rfl, rfl, ?_⟩
  rw [List.set_comm _ _ gn]
  refine k _ _ ?_
  exact Stp.trans (ρ1 := ρ3.set j (some (.o false d))) (σ1 := σ.set j (some (.ref p))) ⟨a1, s1.keep.trans (kp.trans fun c hc' => s23.keep c (.inr hc')), s1.vle.trans (vl.trans (s23.vle.trans a2)), s1.pin.trans (pn.trans (s23.pin.trans a3))⟩ b1
theorem ds_parOOT {i j : Nat} {x y : Str} {a b : Expr} {m : FV} {n : FV} {px py pt pos : Pos} {kt k2 pt2} (hc : X.calm = true) (hN : X.N.Nodup) (hi : X.N[i]? = some x) (hj : X.N[j]? = some y)
    (hx : Loc X.env.scope x) (hy : Loc X.env.scope y) (ha : DF X a m) (hb : DF X b n)
    (hfx : X.fn x = true ∨ X.env.scope.names.lookup x = some .local := by first | exact .inl rfl | exact .inr rfl) (hfy : X.fn y = true ∨ X.env.scope.names.lookup y = some .local := by first | exact .inl rfl | exact .inr rfl)
    (hs : swapsWithSole [.Tuple [.Name x px, .Name y py] kt pt] (.Tuple [a, b] k2 pt2) pos.line X.env = pure false := by rfl) (hw : swappedStores [.Tuple [.Name x px, .Name y py] kt pt] (.Tuple [a, b] k2 pt2) X.env = pure none := by rfl)
    (h1 : starEach [a, b] X.env = (false, eval a X.env) :: starEach [b] X.env := by rfl) (h2 : starEach [b] X.env = (false, eval b X.env) :: starEach [] X.env := by rfl)
    (g1 : (assignEach [.Name x px, .Name y py] X.env).map (·.2) = assign (.Name x px) X.env :: (assignEach [.Name y py] X.env).map (·.2) := by rfl) (g2 : (assignEach [.Name y py] X.env).map (·.2) = assign (.Name y py) X.env :: (assignEach [] X.env).map (·.2) := by rfl)
    (g3 : (assignEach [.Name x px, .Name y py] X.env).length = 2 := by rfl) (g4 : (assignEach [.Name x px, .Name y py] X.env).findIdx? (·.1) = none := by rfl) (g5 : (assignEach [.Tuple [.Name x px, .Name y py] kt pt] X.env).map (·.2) = [assign (.Tuple [.Name x px, .Name y py] kt pt) X.env] := by rfl) :
    DS X (.Assign [.Tuple [.Name x px, .Name y py] kt pt] (.Tuple [a, b] k2 pt2) pos) (sParOO i j m n) :=
  ps_weak (ps_asg (pe_tup (pa_cons ha (pa_cons hb pa_nil h2) h1)) (pg_tup hc (pgs_cons (pg_name hN hi hx hfx) (pgs_cons (pg_name hN hj hy hfy) pgs_nil g2) g1) g3 g4) hs hw g5) fun D σ H ⟨F, ρ, r, R, em, k⟩ => by
  obtain ⟨⟨d, ρ1⟩, e1, em⟩ := ob_inv em
  obtain ⟨⟨e, ρ2⟩, e2, em⟩ := ob_inv em
  obtain ⟨g, em⟩ := grd_inv em
  cases em
  obtain ⟨gi, gj, gn⟩ := parOk_of g
  refine ⟨F, ρ, d, ρ1, R, e1, fun H1 p o R1 ep ho nf kp vl pn => ⟨fp F p, ρ1, e, ρ2, R1, e2, fun H2 p2 o2 R2 ep2 ho2 nf2 kp2 vl2 pn2 => ⟨two_line, fun T hT => ?_⟩⟩⟩
  have sA := R2.alloc hT (.tup [.ref p, .ref p2])
  have ep' := (sA.keep p (.inr (.inl rfl))).trans ((kp2 p (.inl rfl)).trans ep)
  have ep2' := (sA.keep p2 (.inl rfl)).trans ep2
  obtain ⟨a1, a2, a3⟩ := sA.rel.setO nf2 gj.1 gj.2 ep2' (HRep.le sA.vle ho2)
  obtain ⟨b1, b2, b3⟩ := a1.setO (i := i) nf (by rw [List.length_set]; exact gi.1) (by rw [pinned_set' (Ne.symm gn)]; exact gi.2) ep' (HRep.le (vl2.trans (sA.vle.trans a2)) ho)
  refine ⟨T, _, rfl, .inl (.inl upd_same), rfl, _, _, rfl, _, _, rfl, rfl, ?_⟩
  rw [List.set_comm _ _ gn]
  exact k _ _ ⟨b1, kp.trans fun c hc' => (sA.keep c (.inr (.inr hc'))).trans (kp2 c (.inr hc')), vl.trans (vl2.trans (sA.vle.trans (a2.trans b2))), pn.trans (pn2.trans (sA.pin.trans (a3.trans b3)))⟩
end
end DL

set_option Elab.async false
set_option linter.all false
set_option maxRecDepth 100000
namespace DL
open PySem PySem.Spec L2
set_option autoImplicit false
section
variable {X : Cx} {K : PySem.W.Frag}
/-! ### x[k] op= e, x a slot's own list of whole numbers -/
def rGetL (K : PySem.W.Frag) : V → V → Hp → VK → Prop := fun o i H Q => ∃ p xs k v, o = .ref p ∧ i = .int k ∧ 0 ≤ k ∧ SqL K H p xs ∧ xs[k.toNat]? = some v ∧ Q v H
theorem get_lst : PGet X (rGetL X.K) := by
  intro pins s σ H o i ov iv Q I ro ri h
  obtain ⟨p, xs, k, v, rfl, rfl, h0, hq, hx, q⟩ := h
  cases ro
  obtain ⟨t, rfl⟩ := ri
  obtain ⟨its, r, pl, hz⟩ := I.list hq
  obtain ⟨w, ew, rw'⟩ := r.get hx
  have hl : k.toNat < xs.length := (List.getElem?_eq_some_iff.mp hx).1
  rw [sizeLine_eq] at hz
  exact wpAny_getItem_list pl.isList h0 (by omega) (by simpa using ew) ⟨v, H, I, rw', q⟩
def lstAt (o : Option (Option SV)) (kd : D) : Option Int := match o, kd with
  | some (some (.o _ (.lst l))), .int k => (match decide (0 ≤ k), l[k.toNat]? with
    | true, some (.int x) => some x
    | _, _ => none)
  | _, _ => none
def augTo (i : Nat) (f : Int → Int → Int) (kd : D) (x : Int) (e : D) (o : Option (Option SV)) (ρ : Env') : Option Res := match o, kd, e with
  | some (some (.o b (.lst l))), .int k, .int y => ob (ixN l.length k) fun j => some (.nx (ρ.set i (some (.o b (.lst (l.set j (.int (f x y))))))))
  | _, _, _ => none
def sAugIx (i : Nat) (f : Int → Int → Int) (mk m : EV) : SVt := fun ρ => grd (owned ρ i) (ob (mk ρ) fun q => ob (deref q.2 q.1) fun kd => ob (lstAt q.2[i]? kd) fun x => ob (m q.2) fun p => ob (deref p.2 p.1) fun e => augTo i f kd x e p.2[i]? p.2)
theorem lstAt_inv {o : Option (Option SV)} {kd : D} {x : Int} (h : lstAt o kd = some x) : ∃ b l k, o = some (some (.o b (.lst l))) ∧ kd = .int k ∧ 0 ≤ k ∧ l[k.toNat]? = some (.int x) := by
  unfold lstAt at h
  split at h
  · split at h
    · cases h
      exact ⟨_, _, _, rfl, rfl, of_decide_eq_true (by assumption), by assumption⟩
    · cases h
  · cases h
theorem augTo_inv {i : Nat} {f : Int → Int → Int} {kd e : D} {x : Int} {o : Option (Option SV)} {ρ : Env'} {r : Res} (h : augTo i f kd x e o ρ = some r) : ∃ b l k y j, o = some (some (.o b (.lst l))) ∧ kd = .int k ∧ e = .int y ∧ ixN l.length k = some j ∧ r = .nx (ρ.set i (some (.o b (.lst (l.set j (.int (f x y))))))) := by
  unfold augTo at h
  split at h
  · rename_i b l k y
    obtain ⟨j, e1, h⟩ := ob_inv h
    cases h
    exact ⟨b, l, k, y, j, rfl, rfl, rfl, e1, rfl⟩
  · cases h
theorem ds_augIx {i : Nat} {x : Str} {k e : Expr} {mk m : EV} {px tp pos : Pos} {op : Operator} {f : Int → Int → Int} (hN : X.N[i]? = some x) (hv : Vis X.env.scope x) (hk : DE X k mk) (he : DE X e m) (ho : PIp X op (ipI f)) (hd : (x == ("__debug__" : Str)) = false := by decide) (hcd : (x == ("__classdict__" : Str)) = false := by decide)
    (ha : ∀ ov iv new, augStore k ov iv new = (do holding [new, ov, iv] (setItem ov iv new); release [new, ov, iv] []; pure .next) := by intros; rfl) : DS X (.AugAssign (.Subscript (.Name x px) k tp) op e pos) (sAugIx i f mk m) :=
  ps_weak (ps_augS (pe_var hN hv hd hcd) hk get_lst he ho set_list ha) fun N σ H ⟨F, ρ, r, R, em, kk⟩ => by
  obtain ⟨g, em⟩ := grd_inv em
  obtain ⟨a, ha0⟩ := R.owned g
  obtain ⟨⟨q, ρ1⟩, e1, em⟩ := ob_inv em
  obtain ⟨kd, e2, em⟩ := ob_inv em
  obtain ⟨xv, e3, em⟩ := ob_inv em
  obtain ⟨⟨p, ρ2⟩, e4, em⟩ := ob_inv em
  obtain ⟨ed, e5, em⟩ := ob_inv em
  obtain ⟨b1, l1, k1, g1, rfl, g3, g4⟩ := lstAt_inv e3
  obtain ⟨b2, l2, k2, y2, j2, p1, p2, rfl, p4, rfl⟩ := augTo_inv em
  cases p2
  refine ⟨.ref a, ha0, F, ρ, q, ρ1, R, e1, fun H1 v s1 r1 => ?_⟩
  have t1 := (s1.rel.top r1 e2).int
  obtain ⟨a', o, q1, q2, q3, q4⟩ := s1.rel.own i b1 _ g1
  rw [ha0] at q1; cases q1
  cases o with
  | lst xs =>
    obtain ⟨w, w1, w2⟩ := RepL.get (show RepL X.K _ xs l1 from q3) g4
    cases w2
    refine ⟨a, xs, k1, _, rfl, t1, g3, .inl (.inl q2), w1, F, ρ1, p, ρ2, s1.rel, e4, fun H2 u s2 r2 => ?_⟩
    have t2 := (s2.rel.top r2 e5).int
    obtain ⟨a2, o2, u1, u2, u3, u4⟩ := s2.rel.own i b2 _ p1
    rw [ha0] at u1; cases u1
    cases o2 with
    | lst ys =>
      have hl := RepL.length (show RepL X.K _ ys l2 from u3)
      have s3 := s2.rel.write (o' := .lst (ys.set j2 (.int (f xv y2)))) (d' := .lst (l2.set j2 (.int (f xv y2)))) p1 ha0 (RepL.set (.int _) j2 u3)
      refine ⟨xv, y2, rfl, t2, a, ys, k1, j2, rfl, t1, u2, by rw [hl]; exact p4, ?_⟩
      exact kk σ _ ((s1.trans s2).trans s3)
    | _ => exact u3.elim
  | _ => exact q3.elim
end
end DL

set_option Elab.async false
set_option linter.all false
set_option maxRecDepth 100000
namespace DL
open PySem PySem.Spec L2
set_option autoImplicit false
section
variable {X : Cx} {K : PySem.W.Frag}
/-! ### chains of three comparisons: all true, or not looked at further -/
def tChain3 (r r' r'' : R2) (ta tb tc td : TE) : TE := fun σ H Q => ta σ H fun x H1 => tb σ H1 fun y H2 => r x y H2 fun z H3 => ∃ k, z = .bl k ∧
  (if k = true then tc σ H3 fun w H4 => r' y w H4 fun z H5 => ∃ k, z = .bl k ∧ (if k = true then td σ H5 fun u H6 => r'' w u H6 Q else Q (.bl false) H5) else Q (.bl false) H3)
open PyProof.Rows in
theorem pe_chain3 {op op' op'' : CmpOp} {r r' r'' : R2} {a b c d : Expr} {ta tb tc td : TE} {pos : Pos} (ho : OpR X (compareOp op) r) (ho' : OpR X (compareOp op') r') (ho'' : OpR X (compareOp op'') r'') (ha : PE X a ta) (hb : PE X b tb) (hc : PE X c tc) (hd : PE X d td)
    (hm : lastMarks [op, op', op''] [b, c, d] = false := by with_unfolding_all rfl) : PE X (.Compare a [op, op', op''] [b, c, d] pos) (tChain3 r r' r'' ta tb tc td) := by
  refine ⟨fun pins s σ H Q I h => ?_⟩
  refine Compare_chain (thn (ha.run pins s σ H _ I h) fun v s1 ⟨x, H1, I1, r1, q1⟩ => chain_link (thn (hb.run pins s1 σ H1 _ I1 q1) fun u s2 ⟨y, H2, I2, r2, q2⟩ =>
    thn (ho pins s2 σ H2 x y v u _ I2 r1 r2 q2) fun d s3 ⟨z, H3, I3, r3, k, e, q3⟩ => ?_)) hm
  subst e
  cases r3
  refine wpAny_truthy_bool ?_
  cases k with
  | false => exact ite_ff ⟨.bl false, H3, I3, rfl, q3⟩
  | true =>
    refine ite_tt (chain_link (thn (hc.run pins s3 σ H3 _ I3 q3) fun w' s4 ⟨z', H4, I4, r4, q4⟩ => thn (ho' pins s4 σ H4 y z' u w' _ I4 r2 r4 q4) fun d' s5 ⟨z2, H5, I5, r5, k2, e2, q5⟩ => ?_))
    subst e2
    cases r5
    refine wpAny_truthy_bool ?_
    cases k2 with
    | false => exact ite_ff ⟨.bl false, H5, I5, rfl, q5⟩
    | true => exact ite_tt (chain_last (thn (hd.run pins s5 σ H5 _ I5 q5) fun w2 s6 ⟨z3, H6, I6, r6, q6⟩ => ho'' pins s6 σ H6 z' z3 w' w2 Q I6 r4 r6 q6))
open PyProof.Rows in
theorem pt_chain3 {op op' op'' : CmpOp} {r r' r'' : R2} {a b c d : Expr} {ta tb tc td : TE} {pos : Pos} (ho : OpR X (compareOp op) r) (ho' : OpR X (compareOp op') r') (ho'' : OpR X (compareOp op'') r'') (ha : PE X a ta) (hb : PE X b tb) (hc : PE X c tc) (hd : PE X d td)
    (hm : lastMarks [op, op', op''] [b, c, d] = false := by with_unfolding_all rfl) : PT X (.Compare a [op, op', op''] [b, c, d] pos) (tTest (tChain3 r r' r'' ta tb tc td)) := by
  refine ⟨fun pins s σ H Q I h => ?_⟩
  refine isTrue_chain (thn (ha.run pins s σ H _ I h) fun v s1 ⟨x, H1, I1, r1, q1⟩ => test_link (thn (hb.run pins s1 σ H1 _ I1 q1) fun u s2 ⟨y, H2, I2, r2, q2⟩ =>
    thn (ho pins s2 σ H2 x y v u _ I2 r1 r2 q2) fun d s3 ⟨z, H3, I3, r3, k, e, q3⟩ => ?_)) hm
  subst e
  cases r3
  refine wpAny_truthy_bool ?_
  cases k with
  | false =>
    obtain ⟨k', e', q'⟩ := q3
    cases e'
    exact ite_ff ⟨H3, I3, q'⟩
  | true =>
    refine ite_tt (test_link (thn (hc.run pins s3 σ H3 _ I3 q3) fun w' s4 ⟨z', H4, I4, r4, q4⟩ => thn (ho' pins s4 σ H4 y z' u w' _ I4 r2 r4 q4) fun d' s5 ⟨z2, H5, I5, r5, k2, e2, q5⟩ => ?_))
    subst e2
    cases r5
    refine wpAny_truthy_bool ?_
    cases k2 with
    | false =>
      obtain ⟨k', e', q'⟩ := q5
      cases e'
      exact ite_ff ⟨H5, I5, q'⟩
    | true =>
      refine ite_tt (test_last (thn (hd.run pins s5 σ H5 _ I5 q5) fun w2 s6 ⟨z3, H6, I6, r6, q6⟩ => thn (ho'' pins s6 σ H6 z' z3 w' w2 _ I6 r4 r6 q6) fun d' s7 ⟨z4, H7, I7, r7, k3, e3, q7⟩ => ?_))
      subst e3
      cases r7
      exact wpAny_truthy_bool ⟨H7, I7, q7⟩
def ch3 (k : Env' → Option (A × Env')) (z : D) (ρ : Env') : Option (A × Env') := match z with
  | .bl true => k ρ
  | .bl false => some (.v (.bl false), ρ)
  | _ => none
def mCh3 (f g h : D → D → Option D) (ma mb mc md : EV) : EV := bd ma fun x => bd mb fun y ρ => ob (deref ρ x) fun d => ob (deref ρ y) fun e => ob (f d e) fun z =>
  ch3 (bd mc fun w ρ => ob (deref ρ y) fun e => ob (deref ρ w) fun c => ob (g e c) fun z => ch3 (bd md fun u ρ => ob (deref ρ w) fun c => ob (deref ρ u) fun b => ob (h c b) fun z => some (.v z, ρ)) z ρ) z ρ
theorem ch3_inv {k : Env' → Option (A × Env')} {z : D} {ρ : Env'} {r : A × Env'} (h : ch3 k z ρ = some r) : (z = .bl true ∧ k ρ = some r) ∨ (z = .bl false ∧ r = (.v (.bl false), ρ)) := by
  unfold ch3 at h
  split at h
  · exact .inl ⟨rfl, h⟩
  · cases h; exact .inr ⟨rfl, rfl⟩
  · cases h
theorem chn3 {f g h : D → D → Option D} {r r' r'' : R2} (hf : OpD K f r) (hg : OpD K g r') (hh : OpD K h r'') {ma mb mc md : EV} {σ : St} {H : Hp} {Q : VK} (q : tD K (mCh3 f g h ma mb mc md) σ H Q) : tChain3 r r' r'' (tD K ma) (tD K mb) (tD K mc) (tD K md) σ H Q := by
  obtain ⟨F, ρ, x, ρ', R, em, k⟩ := q
  obtain ⟨x1, ρ1, e1, em⟩ := bd_inv em
  obtain ⟨y1, ρ2, e2, em⟩ := bd_inv em
  obtain ⟨d, e3, em⟩ := ob_inv em
  obtain ⟨e, e4, em⟩ := ob_inv em
  obtain ⟨z, e5, em⟩ := ob_inv em
  refine ⟨F, ρ, x1, ρ1, R, e1, fun H1 v s1 r1 => ⟨F, ρ1, y1, _, s1.rel, e2, fun H2 u s2 r2 => ?_⟩⟩
  refine hf F _ σ H2 v u d e z _ s2.rel (s2.rel.top (r1.le s2.vle) e3) (s2.rel.top r2 e4) e5 fun H3 w s3 rw' => ?_
  rcases ch3_inv em with ⟨rfl, em⟩ | ⟨rfl, em⟩
  · obtain ⟨w1, ρ3, e6, em⟩ := bd_inv em
    obtain ⟨e', e7, em⟩ := ob_inv em
    obtain ⟨c, e8, em⟩ := ob_inv em
    obtain ⟨z', e9, em⟩ := ob_inv em
    refine ⟨true, (by cases rw'; rfl), ?_⟩
    rw [if_pos rfl]
    refine ⟨F, ρ2, w1, _, s3.rel, e6, fun H4 w4 s4 r4 => ?_⟩
    refine hg F _ σ H4 u w4 e' c z' _ s4.rel (s4.rel.top ((r2.le s3.vle).le s4.vle) e7) (s4.rel.top r4 e8) e9 fun H5 w5 s5 rw5 => ?_
    rcases ch3_inv em with ⟨rfl, em⟩ | ⟨rfl, em⟩
    · obtain ⟨u1, ρ4, e10, em⟩ := bd_inv em
      obtain ⟨c', e11, em⟩ := ob_inv em
      obtain ⟨b, e12, em⟩ := ob_inv em
      obtain ⟨z2, e13, em⟩ := ob_inv em
      cases em
      refine ⟨true, (by cases rw5; rfl), ?_⟩
      rw [if_pos rfl]
      refine ⟨F, ρ3, u1, _, s5.rel, e10, fun H6 w6 s6 r6 => ?_⟩
      exact hh F _ σ H6 w4 w6 c' b z2 Q s6.rel (s6.rel.top ((r4.le s5.vle).le s6.vle) e11) (s6.rel.top r6 e12) e13 fun H' w s7 rw' => k H' w ((((((s1.trans s2).trans s3).trans s4).trans s5).trans s6).trans s7) rw'
    · cases em
      refine ⟨false, (by cases rw5; rfl), ?_⟩
      rw [if_neg (by decide)]
      exact k H5 _ ((((s1.trans s2).trans s3).trans s4).trans s5) (.bl false)
  · cases em
    refine ⟨false, (by cases rw'; rfl), ?_⟩
    rw [if_neg (by decide)]
    exact k H3 _ ((s1.trans s2).trans s3) (.bl false)
theorem de_chain3 {op op' op'' : CmpOp} {r r' r'' : R2} {f g h : D → D → Option D} {a b c d : Expr} {ma mb mc md : EV} {pos : Pos} (ho : OpR X (compareOp op) r) (hf : OpD X.K f r) (ho' : OpR X (compareOp op') r') (hg : OpD X.K g r') (ho'' : OpR X (compareOp op'') r'') (hh : OpD X.K h r'') (ha : DE X a ma) (hb : DE X b mb) (hc : DE X c mc) (hd : DE X d md)
    (hm : lastMarks [op, op', op''] [b, c, d] = false := by with_unfolding_all rfl) : DE X (.Compare a [op, op', op''] [b, c, d] pos) (mCh3 f g h ma mb mc md) := pe_weak (pe_chain3 ho ho' ho'' ha hb hc hd hm) fun _ _ _ q => chn3 hf hg hh q
theorem dt_chain3 {op op' op'' : CmpOp} {r r' r'' : R2} {f g h : D → D → Option D} {a b c d : Expr} {ma mb mc md : EV} {pos : Pos} (ho : OpR X (compareOp op) r) (hf : OpD X.K f r) (ho' : OpR X (compareOp op') r') (hg : OpD X.K g r') (ho'' : OpR X (compareOp op'') r'') (hh : OpD X.K h r'') (ha : DE X a ma) (hb : DE X b mb) (hc : DE X c mc) (hd : DE X d md)
    (hm : lastMarks [op, op', op''] [b, c, d] = false := by with_unfolding_all rfl) : DT X (.Compare a [op, op', op''] [b, c, d] pos) (mT (mCh3 f g h ma mb mc md)) := pt_weak (pt_chain3 ho ho' ho'' ha hb hc hd hm) fun _ _ _ q => by
    obtain ⟨F, ρ, x, ρ', R, em, k⟩ := tst q
    exact chn3 hf hg hh ⟨F, ρ, x, ρ', R, em, k⟩
end
end DL

set_option Elab.async false
set_option linter.all false
set_option maxRecDepth 100000
namespace DL
open PySem PySem.Spec L2
set_option autoImplicit false
section
variable {X : Cx} {K : PySem.W.Frag} {tg : Expr}
/-! ### a range in a name -/
def rgOk2 (i j : Int) : Bool := decide (-(2 ^ 62) ≤ i ∧ i < 2 ^ 62 ∧ -(2 ^ 62) ≤ j ∧ j < 2 ^ 62)
def rngD2 : List D → Option D
  | [.int i, .int j] => grd (rgOk2 i j) (some (.rg i j))
  | _ => none
def iRngV (te : TE) : TI := fun σ H R => te σ H fun x H1 => ∃ a lo hi, x = .ref a ∧ H1 a = some (.rng lo hi) ∧ (-(2 ^ 62) ≤ lo ∧ lo < 2 ^ 62 ∧ -(2 ^ 62) ≤ hi ∧ hi < 2 ^ 62) ∧ R (Itr lo (hi - lo).toNat) H1
theorem pi_rngV {e : Expr} {te : TE} (h : PE X e te) : PI X tg e (iRngV te) := ⟨fun pins s σ H R I q => thn (h.run pins s σ H _ I q) fun v s1 ⟨x, H1, I1, r1, q1⟩ => by
  obtain ⟨a, lo, hi, rfl, ha, ⟨h1, h2, h3, h4⟩, q2⟩ := q1
  cases r1
  obtain ⟨t, u, w, ho⟩ := I1.hok a _ ha
  refine wpAny_pyIter_range (t := t) (u := u) (v := w) ho (small_one h1 h2 h3 h4) ?_
  refine ⟨s1.heap.objs.size, [s1.heap.objs.size], _, _, H1, rfl, I1.kept (t' := s1.toks) fun b o e => Heap.get?_push_of_some _ e, turn_range _ lo (hi - lo).toNat, ?_, fun b hb => ?_, q2⟩
  · have e1 : lo + ((0 : Nat) : Int) * 1 = lo := by simp
    have e2 : (((hi - lo).toNat : Nat) : Int) - ((0 : Nat) : Int) = Builtin.Range.rangeSize lo hi 1 := by rw [rangeSize_one]; split <;> omega
    show IsRangeIter _ _ (lo + ((0 : Nat) : Int) * 1) ((((hi - lo).toNat : Nat) : Int) - ((0 : Nat) : Int)) 1
    rw [e1, e2]
    exact Heap.get?_push_size _ rfl
  · have e : b = s1.heap.objs.size := by simpa using hb
    subst e
    exact I1.fpOk (Nat.le_refl _) (I1.hok.fresh (Nat.le_refl _))⟩
theorem cd_range : CallD K rngD2 (fun vs H Q => ∃ i j, vs = [V.int i, V.int j] ∧ ∀ p, H p = none → Q (.ref p) (upd H p (.rng i j))) := by
  intro F ρ σ H vs ds z Q R t ef k
  unfold rngD2 at ef
  split at ef
  · obtain ⟨g, ef⟩ := grd_inv ef
    cases ef
    obtain ⟨v, u, rfl, tv, tu⟩ := topL2 t
    refine ⟨_, _, by rw [tv.int, tu.int], fun p hp => ?_⟩
    exact k _ _ (R.alloc hp _) (.rg (R.sees hp))
  · cases ef
def iRgV (m : EV) : LI := fun ρ => ob (m ρ) fun p => ob (toV p.2 p.1) fun q => match q.1 with
  | .rg lo hi => grd (rgOk2 lo hi) (some (rngL lo (hi - lo).toNat, q.2))
  | _ => none
theorem di_rgV {e : Expr} {m : EV} (h : DE X e m) : DI X tg e (iRgV m) := pi_weak (pi_rngV h) fun σ H Q ⟨F, ρ, items, ρ', R, em, k⟩ => by
  obtain ⟨⟨x, ρ1⟩, e1, em⟩ := ob_inv em
  obtain ⟨⟨d, ρ2⟩, e2, em⟩ := ob_inv em
  simp only at em
  split at em
  · obtain ⟨g, em⟩ := grd_inv em
    cases em
    refine ⟨F, ρ, x, ρ1, R, e1, fun H1 v s1 r1 => ?_⟩
    obtain ⟨s2, r2⟩ := s1.rel.toV r1 e2
    cases r2 with
    | rg e =>
      refine ⟨_, _, _, rfl, (hid_some e).1, of_decide_eq_true g, k H1 _ (s1.trans s2) fun F' H2 R' m => ?_⟩
      exact itw_range
  · cases em
/-! ### x[k] as a target, x a slot's own list -/
def subTo (i : Nat) (kd d : D) (o : Option (Option SV)) (ρ : Env') : Option Env' := match o, kd with
  | some (some (.o b (.lst l))), .int k => ob (ixN l.length k) fun j => some (ρ.set i (some (.o b (.lst (l.set j d)))))
  | _, _ => none
def gSub' (i : Nat) (mk : EV) : GV := fun d ρ => grd (owned ρ i) (ob (mk ρ) fun q => ob (deref q.2 q.1) fun kd => subTo i kd d q.2[i]? q.2)
theorem dg_sub {i : Nat} {x : Str} {k : Expr} {mk : EV} {px tp : Pos} {ws : List Nat} (hN : X.N[i]? = some x) (hv : Vis X.env.scope x) (hk : DE X k mk) (hd : (x == ("__debug__" : Str)) = false := by decide) (hcd : (x == ("__classdict__" : Str)) = false := by decide)
    (ha : ∀ v, assign (.Subscript (.Name x px) k tp) X.env v = (do
      let ov ← holding [v] (eval (.Name x px) X.env)
      let iv ← holding [v, ov] (eval k X.env)
      standAt tp
      holding [v, ov, iv] (setItem ov iv v)
      release [v, ov, iv] []) := by intro _; rfl) : DG X (.Subscript (.Name x px) k tp) ws (gSub' i mk) :=
  pg_weak (pg_sub (pe_var hN hv hd hcd) hk set_list ha) fun v σ H Q ⟨F, ρ, d, ρ', R, rv, eg, kk⟩ => by
  obtain ⟨g, eg⟩ := grd_inv eg
  obtain ⟨a, ha0⟩ := R.owned g
  obtain ⟨⟨kx, ρ2⟩, e2, eg⟩ := ob_inv eg
  obtain ⟨kd, e3, eg⟩ := ob_inv eg
  unfold subTo at eg
  split at eg
  · rename_i b l k' hi
    obtain ⟨j, e5, eg⟩ := ob_inv eg
    cases eg
    refine ⟨.ref a, ha0, F, ρ, kx, ρ2, R, e2, fun H2 u s2 r2 => ?_⟩
    have t3 := (s2.rel.top r2 e3).int
    obtain ⟨a', o, g1, g2, g3, g4⟩ := s2.rel.own i b _ hi
    rw [ha0] at g1; cases g1
    cases o with
    | lst xs =>
      have hl := RepL.length (show RepL X.K _ xs l from g3)
      refine ⟨a, xs, _, j, rfl, t3, g2, by rw [hl]; exact e5, ?_⟩
      have s4 := s2.rel.write (o' := .lst (xs.set j v)) (d' := .lst (l.set j d)) hi ha0 (RepL.set (Rep.le s2.vle rv) j g3)
      exact kk σ _ (s2.trans s4) rfl
    | _ => exact g3.elim
  · cases eg
/-! ### xs.index(y) -/
def idxP (d : PyData) : List PyData → Option Nat
  | [] => none
  | z :: zs => if PyData.eqv z d = true then some 0 else (idxP d zs).map (· + 1)
theorem idxP_ok {d : PyData} : ∀ {zs : List PyData} {j : Nat}, idxP d zs = some j → ∃ z, zs[j]? = some z ∧ PyData.eqv z d = true ∧ ∀ (m : Nat) (z' : PyData), m < j → zs[m]? = some z' → PyData.eqv z' d = false
  | [], _, h => nomatch h
  | z :: zs, j, h => by
    unfold idxP at h
    split at h
    · cases h
      exact ⟨z, rfl, by assumption, fun m z' hm => absurd hm (by omega)⟩
    · rename_i hn
      obtain ⟨i, e, e2⟩ := Option.map_eq_some_iff.mp h
      subst e2
      obtain ⟨w, h1, h2, h3⟩ := idxP_ok e
      refine ⟨w, by simpa using h1, h2, fun m z' hm hz => ?_⟩
      cases m with
      | zero => simp at hz; subst hz; simpa using hn
      | succ m => exact h3 m z' (by omega) (by simpa using hz)
def indexD : D → D → Option D := fun d e => match d with
  | .lst l => ob (toP e) fun p => ob (toPL l) fun qs => grd (shp p && shp (.list qs)) (ob (idxP p qs) fun j => some (.int (j : Nat)))
  | _ => none
/-- a method of one argument on a list, which changes nothing -/
def isLst : D → Bool
  | .lst _ => true
  | _ => false
def mIndex (m n : EV) : EV := bd m fun x ρ => ob (deref ρ x) fun d0 => grd (isLst d0) (bd n (fun y ρ => ob (deref ρ x) fun d => ob (deref ρ y) fun e => ob (indexD d e) fun z => some (.v z, ρ)) ρ)
theorem de_index {o e : Expr} {m n : EV} {apos cpos : Pos} (hu : X.A.units + 65 < cLine) (ho : DE X o m) (he : DE X e n) (hs1 : starEach [e] X.env = (false, eval e X.env) :: starEach [] X.env := by rfl)
    (hbase : attributeBase o "index" X.env (eval o X.env) = eval o X.env := by rfl)
    (hfew : ((backTo cpos (starEach [e] X.env)).all (fun x => !x.1) && (backToKw cpos (keywordEach [] X.env)).all (fun x => x.1.isSome)
      && decide (([e] : List Expr).length + ([] : List Keyword).length + (if ([] : List Keyword).isEmpty then 0 else 1) < 30)) = true := by rfl)
    (hline : (apos.endLine == cpos.line) = true := by rfl) (hplain : (backTo cpos (starEach [] X.env)).any (·.1) = false := by rfl) :
    DE X (.Call (.Attribute o "index" apos) [e] [] cpos) (mIndex m n) :=
  pe_weak (pe_bm PySem.F.plainAttrs_list PySem.F.slot_list_index PySem.F.type_list_index (mt_indexD hu) ho (da_cons he da_nil hs1) hbase hfew hline hs1 hplain) fun σ H Q ⟨F, ρ, z, ρ', R, em, k⟩ => by
  obtain ⟨x, ρ1, e1, em⟩ := bd_inv em
  obtain ⟨d0, e2, em⟩ := ob_inv em
  obtain ⟨g, em⟩ := grd_inv em
  obtain ⟨y, ρ2, e3, em⟩ := bd_inv em
  obtain ⟨d, e4, em⟩ := ob_inv em
  obtain ⟨e', e5, em⟩ := ob_inv em
  obtain ⟨z', e6, em⟩ := ob_inv em
  cases em
  unfold isLst at g
  split at g
  · rename_i l0
    refine ⟨F, ρ, x, ρ1, R, e1, fun H1 v s1 r1 => ?_⟩
    obtain ⟨a, xs0, rfl, hx0, _⟩ := (s1.rel.top r1 e2).lst
    refine ⟨.inl ⟨rfl, xs0, .inl (.inl hx0)⟩, F, ρ1, [y], ρ', s1.rel, ?_, fun H2 vs s2 rs => ?_⟩
    · show bd n _ ρ1 = _
      unfold bd; rw [e3]; rfl
    · cases rs with
      | cons r2 rs =>
        cases rs
        unfold indexD at e6
        split at e6
        · rename_i l
          obtain ⟨p, e7, e6⟩ := ob_inv e6
          obtain ⟨qs, e8, e6⟩ := ob_inv e6
          obtain ⟨g2, e6⟩ := grd_inv e6
          obtain ⟨j, e9, e6⟩ := ob_inv e6
          cases e6
          rw [Bool.and_eq_true] at g2
          obtain ⟨w, w1, w2, w3⟩ := idxP_ok e9
          have t1 := s2.rel.top (r1.le s2.vle) e4
          have t2 := s2.rel.top r2 e5
          have d1 : Dp X.K H2 (.ref a) (.list qs) := t1.dp (by simp only [toP, e8])
          exact ⟨a, _, p, qs, j, w, rfl, rfl, d1, t2.dp e7, g2.2, g2.1, w1, w2, w3, k H2 _ (s1.trans s2) (.int _)⟩
        · cases e6
  · cases g
end
end DL

set_option Elab.async false
set_option linter.all false
set_option maxRecDepth 100000
namespace DL
open PySem PySem.Spec L2
set_option autoImplicit false
section
variable {X : Cx} {K : PySem.W.Frag} {tg : Expr}
/-! ### [e for a in xs for b in ys] -/
/-- a walk that adds to the list at p -/
theorem lcIn {g : GV} {t : TV} {e : EV} {vs : List Nat} {items : List D} {ρ1 ρz : Env'} {σ : St} {Hs : Hp} {p : Addr} {F : Fr0} {J : It} {acc0 : List V} {yd0 rest0 : List D} {NX : Hp → Prop} (I : ItW K (fp F p) ρ1 σ Hs J items) (nf : ¬ F p) (R1 : Rel K (fp F p) ρ1 σ Hs) (fr : freeE ρ1 vs = true) (ep0 : Hs p = some (.lst acc0))
    (ra0 : RepL K (vis (fp F p) ρ1 σ Hs) acc0 yd0) (el0 : lcL g t e vs items ρ1 = some (rest0, ρz)) (hb : yd0.length + rest0.length ≤ sizeLine)
    (post : ∀ H acc, Rel K (fp F p) ρz σ H → Keep F Hs H → Vle (vis (fp F p) ρ1 σ Hs) (vis (fp F p) ρz σ H) → Pins ρ1 ρz σ σ → H p = some (.lst acc) → RepL K (vis (fp F p) ρz σ H) acc (yd0 ++ rest0) → NX H) :
    ∃ W : Nat → Nat → Hp → Prop, (∃ m, W 0 m Hs) ∧ ∀ i m H, W i m H → (J.stop i H ∧ NX H) ∨ (J.go i H ∧ ∃ Nx : Hp → Prop, (∀ H', Nx H' → ∃ m', m' < m ∧ W (i + 1) m' H') ∧ ∀ x H', J.yld i H x H' → tDG K vs g x (wipe σ vs) H' fun σ2 H2 => wipe σ2 vs = wipe σ vs ∧ tDT K t σ2 H2 fun b H3 =>
      if b = true then tD K e σ2 H3 fun y H4 => ∃ acc, H4 p = some (.lst acc) ∧ acc.length < sizeLine ∧ Nx (upd H4 p (.lst (acc ++ [y]))) else Nx H3) := by
  refine ⟨fun i m H2 => m = items.length - i ∧ i ≤ items.length ∧ ∃ ρ2 acc yd rest, Rel K (fp F p) ρ2 σ H2 ∧ freeE ρ2 vs = true ∧ Keep F Hs H2 ∧ Vle (vis (fp F p) ρ1 σ Hs) (vis (fp F p) ρ2 σ H2) ∧ Pins ρ1 ρ2 σ σ ∧
      H2 p = some (.lst acc) ∧ RepL K (vis (fp F p) ρ2 σ H2) acc yd ∧ lcL g t e vs (items.drop i) ρ2 = some (rest, ρz) ∧ yd ++ rest = yd0 ++ rest0,
    ⟨items.length, by simp, Nat.zero_le _, ρ1, acc0, yd0, rest0, R1, fr, .refl _ _, .refl _, .refl _ _, ep0, ra0, by rw [List.drop_zero]; exact el0, rfl⟩, ?_⟩
  rintro i m H2 ⟨rfl, hi, ρ2, acc, yd, rest, R2, c2, kp2, vl2, pn2, ep, ra, el, ey⟩
  by_cases hlt : i < items.length
  · have hd : items.drop i = items[i] :: items.drop (i + 1) := List.drop_eq_getElem_cons hlt
    rw [hd] at el
    simp only [lcL] at el
    obtain ⟨ρ3, eg, el⟩ := ob_inv el
    obtain ⟨⟨b, ρ4⟩, et, el⟩ := ob_inv el
    refine .inr ⟨I.go i ρ2 σ H2 R2 vl2 hlt, fun H3 => i + 1 ≤ items.length ∧ ∃ ρ2 acc yd rest, Rel K (fp F p) ρ2 σ H3 ∧ freeE ρ2 vs = true ∧ Keep F Hs H3 ∧ Vle (vis (fp F p) ρ1 σ Hs) (vis (fp F p) ρ2 σ H3) ∧ Pins ρ1 ρ2 σ σ ∧
      H3 p = some (.lst acc) ∧ RepL K (vis (fp F p) ρ2 σ H3) acc yd ∧ lcL g t e vs (items.drop (i + 1)) ρ2 = some (rest, ρz) ∧ yd ++ rest = yd0 ++ rest0,
      fun H3 q => ⟨items.length - (i + 1), by omega, rfl, q⟩, fun x H3 y => ?_⟩
    obtain ⟨s3, d, hd', rd⟩ := I.yld i ρ2 σ H2 x H3 R2 vl2 hlt y
    rw [List.getElem?_eq_getElem hlt] at hd'
    cases hd'
    obtain ⟨Rw, vw⟩ := s3.rel.wipeE (σ' := wipe σ vs) (vs := vs) (wipe_length _ _) fun j hj => wipe_out hj
    refine ⟨fp F p, wipeE ρ2 vs, _, ρ3, Rw, Rep.le vw rd, eg, fun σ4 H4 s4 w4 => ?_⟩
    rw [wipe_wipe] at w4
    have hσ : ∀ j, j ∉ vs → σ[j]? = σ4[j]? := fun j hj => by rw [← wipe_out hj, ← w4, wipe_out hj]
    have hl : σ.length = σ4.length := by rw [← wipe_length σ vs, ← w4, wipe_length]
    have back : ∀ {ρ6 : Env'} {H6 : Hp}, Stp K (fp F p) (wipeE ρ2 vs) ρ6 (wipe σ vs) σ4 H3 H6 → Rel K (fp F p) (restE ρ2 ρ6 vs) σ H6 ∧ Vle (vis (fp F p) ρ2 σ H2) (vis (fp F p) (restE ρ2 ρ6 vs) σ H6) ∧ Vle (vis (fp F p) ρ6 σ4 H6) (vis (fp F p) (restE ρ2 ρ6 vs) σ H6) ∧ Pins ρ2 (restE ρ2 ρ6 vs) σ σ ∧ Keep (fp F p) H2 H6 := fun {ρ6 H6} s6 => by
      obtain ⟨a, b⟩ := s6.rel.restE (ρ0 := ρ2) (σ := σ) (vs := vs) R2.val (s3.vle.trans (vw.trans s6.vle)) c2 hl hσ
      refine ⟨a, (s3.vle.trans (vw.trans s6.vle)).trans b, b, fun j e' h' => ?_, s3.keep.trans s6.keep⟩
      have hj := free_not c2 h'
      obtain ⟨⟨d', q1⟩, q2⟩ := s6.pin j e' (by rw [wipeE_out hj]; exact h')
      exact ⟨⟨d', by rw [restE_out hj]; exact q1⟩, rfl⟩
    have s24 := s4
    refine ⟨w4, fp F p, ρ3, b, ρ4, s4.rel, et, fun H5 s5 => ?_⟩
    have s25 := s24.trans s5
    cases b with
    | false =>
      refine iteF ?_
      obtain ⟨a1, a2, a3, a4, a5⟩ := back s25
      refine ⟨hlt, _, acc, yd, rest, a1, free_rest _ c2, kp2.trans fun c hc => a5 c (.inr hc), vl2.trans a2, pn2.trans a4, ?_, RepL.le a2 ra, el, ey⟩
      rw [a5 p (.inl rfl)]; exact ep
    | true =>
      refine iteT ?_
      obtain ⟨⟨xa, ρ5⟩, ee, el⟩ := ob_inv el
      obtain ⟨⟨yv, ρ6⟩, ev, el⟩ := ob_inv el
      obtain ⟨⟨zs, ρ7⟩, er, el⟩ := ob_inv el
      cases el
      refine ⟨fp F p, ρ4, xa, ρ5, s5.rel, ee, fun H6 v s6 rv => ?_⟩
      obtain ⟨s7, r7⟩ := s6.rel.toV rv ev
      have s27 := (s25.trans s6).trans s7
      obtain ⟨a1, a2, a3, a4, a5⟩ := back s27
      have la : acc.length < sizeLine := by
        have l1 := ra.length
        have l2 := congrArg List.length ey
        simp only [List.length_append, List.length_cons] at l2
        omega
      refine ⟨acc, by rw [a5 p (.inl rfl)]; exact ep, la, ?_⟩
      obtain ⟨b1, b2⟩ := a1.poke (o := .lst (acc ++ [v]))
      refine ⟨hlt, _, acc ++ [v], yd ++ [yv], zs, b1, free_rest _ c2, ?_, by rw [b2]; exact vl2.trans a2, pn2.trans a4, upd_same, ?_, er, by rw [List.append_assoc]; exact ey⟩
      · intro c hc
        have hc' : c ≠ p := fun z => nf (by rw [← z]; exact hc)
        rw [upd_ne hc', a5 c (.inr hc)]
        exact kp2 c hc
      · rw [b2]
        exact (RepL.le a2 ra).append (.cons (Rep.le a3 r7) .nil)
  · have ei : i = items.length := by omega
    subst ei
    rw [List.drop_length] at el
    cases el
    rw [List.append_nil] at ey
    refine .inl ⟨I.stop _ ρz σ H2 R2 vl2 (Nat.le_refl _), post H2 acc R2 kp2 vl2 pn2 ep (by rw [← ey]; exact ra)⟩
def lc2L (g : GV) (t : TV) (it1 : LI) (g1 : GV) (t1 : TV) (e : EV) (vs vs1 : List Nat) : List D → Env' → Option (List D × Env')
  | [], ρ => some ([], ρ)
  | d :: ds, ρ => ob (g d (wipeE ρ vs)) fun ρ1 => ob (t ρ1) fun p => match p.1 with
    | true => ob (it1 p.2) fun q => grd (freeE q.2 vs1) (ob (lcL g1 t1 e vs1 q.1 q.2) fun y => ob (lc2L g t it1 g1 t1 e vs vs1 ds (restE ρ y.2 vs)) fun z => some (y.1 ++ z.1, z.2))
    | false => lc2L g t it1 g1 t1 e vs vs1 ds (restE ρ p.2 vs)
def mLc2 (it : LI) (g : GV) (t : TV) (it1 : LI) (g1 : GV) (t1 : TV) (e : EV) (vs vs1 : List Nat) : FV := fun ρ => ob (it ρ) fun p => grd (freeE p.2 vs) (ob (lc2L g t it1 g1 t1 e vs vs1 p.1 p.2) fun z => grd (lineOk z.1.length) (some (.lst z.1, z.2)))
theorem lcD2 {it it1 : LI} {g g1 : GV} {t t1 : TV} {e : EV} {vs vs1 : List Nat} {σ : St} {H : Hp} {Q : VK} (h : tDF K (mLc2 it g t it1 g1 t1 e vs vs1) σ H Q) : tLc2 (tDI K it) (tDG K vs g) (tDT K t) (tDI K it1) (tDG K vs1 g1) (tDT K t1) (tD K e) vs vs1 σ H Q := by
  obtain ⟨F, ρ, d, ρ', R, em, k⟩ := h
  obtain ⟨⟨items, ρ1⟩, e1, em⟩ := ob_inv em
  obtain ⟨gd, em⟩ := grd_inv em
  obtain ⟨⟨ys, ρz⟩, e2, em⟩ := ob_inv em
  obtain ⟨gl, em⟩ := grd_inv em
  cases em
  have hline : ys.length ≤ sizeLine := lineOk_of gl
  refine ⟨F, ρ, items, ρ1, R, e1, fun H1 J s1 hJ p hp => ?_⟩
  obtain ⟨R1, kp1, vl1⟩ := s1.rel.allocF hp (.lst [])
  have I := hJ (fp F p) _ R1 vl1
  have nfp : ¬ F p := fun z => s1.rel.alo p z hp
  refine ⟨fun i m H2 => m = items.length - i ∧ i ≤ items.length ∧ ∃ ρ2 acc yd rest, Rel K (fp F p) ρ2 σ H2 ∧ freeE ρ2 vs = true ∧ Keep F H1 H2 ∧ Vle (vis (fp F p) ρ1 σ (upd H1 p (.lst []))) (vis (fp F p) ρ2 σ H2) ∧ Pins ρ1 ρ2 σ σ ∧
      H2 p = some (.lst acc) ∧ RepL K (vis (fp F p) ρ2 σ H2) acc yd ∧ lc2L g t it1 g1 t1 e vs vs1 (items.drop i) ρ2 = some (rest, ρz) ∧ yd ++ rest = ys,
    ⟨items.length, by simp, Nat.zero_le _, ρ1, [], [], ys, R1, gd, kp1, .refl _, .refl _ _, upd_same, .nil, by rw [List.drop_zero]; exact e2, rfl⟩, ?_⟩
  rintro i m H2 ⟨rfl, hi, ρ2, acc, yd, rest, R2, c2, kp2, vl2, pn2, ep, ra, el, ey⟩
  by_cases hlt : i < items.length
  · have hd : items.drop i = items[i] :: items.drop (i + 1) := List.drop_eq_getElem_cons hlt
    rw [hd] at el
    simp only [lc2L] at el
    obtain ⟨ρ3, eg, el⟩ := ob_inv el
    obtain ⟨⟨b, ρ4⟩, et, el⟩ := ob_inv el
    refine .inr ⟨I.go i ρ2 σ H2 R2 vl2 hlt, fun H3 => i + 1 ≤ items.length ∧ ∃ ρ2 acc yd rest, Rel K (fp F p) ρ2 σ H3 ∧ freeE ρ2 vs = true ∧ Keep F H1 H3 ∧ Vle (vis (fp F p) ρ1 σ (upd H1 p (.lst []))) (vis (fp F p) ρ2 σ H3) ∧ Pins ρ1 ρ2 σ σ ∧
      H3 p = some (.lst acc) ∧ RepL K (vis (fp F p) ρ2 σ H3) acc yd ∧ lc2L g t it1 g1 t1 e vs vs1 (items.drop (i + 1)) ρ2 = some (rest, ρz) ∧ yd ++ rest = ys,
      fun H3 q => ⟨items.length - (i + 1), by omega, rfl, q⟩, fun x H3 y => ?_⟩
    obtain ⟨s3, d, hd', rd⟩ := I.yld i ρ2 σ H2 x H3 R2 vl2 hlt y
    rw [List.getElem?_eq_getElem hlt] at hd'
    cases hd'
    obtain ⟨Rw, vw⟩ := s3.rel.wipeE (σ' := wipe σ vs) (vs := vs) (wipe_length _ _) fun j hj => wipe_out hj
    refine ⟨fp F p, wipeE ρ2 vs, _, ρ3, Rw, Rep.le vw rd, eg, fun σ4 H4 s4 w4 => ?_⟩
    rw [wipe_wipe] at w4
    have hσ : ∀ j, j ∉ vs → σ[j]? = σ4[j]? := fun j hj => by rw [← wipe_out hj, ← w4, wipe_out hj]
    have hl : σ.length = σ4.length := by rw [← wipe_length σ vs, ← w4, wipe_length]
    have back : ∀ {ρ6 : Env'} {H6 : Hp}, Rel K (fp F p) ρ6 σ4 H6 → Vle (vis (fp F p) (wipeE ρ2 vs) (wipe σ vs) H3) (vis (fp F p) ρ6 σ4 H6) → Pins (wipeE ρ2 vs) ρ6 (wipe σ vs) σ4 → Rel K (fp F p) (restE ρ2 ρ6 vs) σ H6 ∧ Vle (vis (fp F p) ρ2 σ H2) (vis (fp F p) (restE ρ2 ρ6 vs) σ H6) ∧ Vle (vis (fp F p) ρ6 σ4 H6) (vis (fp F p) (restE ρ2 ρ6 vs) σ H6) ∧ Pins ρ2 (restE ρ2 ρ6 vs) σ σ := fun {ρ6 H6} sr sv sp => by
      obtain ⟨a, b⟩ := sr.restE (ρ0 := ρ2) (σ := σ) (vs := vs) R2.val (s3.vle.trans (vw.trans sv)) c2 hl hσ
      refine ⟨a, (s3.vle.trans (vw.trans sv)).trans b, b, fun j e' h' => ?_⟩
      have hj := free_not c2 h'
      obtain ⟨⟨d', q1⟩, q2⟩ := sp j e' (by rw [wipeE_out hj]; exact h')
      exact ⟨⟨d', by rw [restE_out hj]; exact q1⟩, rfl⟩
    have s24 := s4
    refine ⟨w4, fp F p, ρ3, b, ρ4, s4.rel, et, fun H5 s5 => ?_⟩
    have s25 := s24.trans s5
    cases b with
    | false =>
      refine iteF ?_
      obtain ⟨a1, a2, a3, a4⟩ := back s25.rel s25.vle s25.pin
      have a5 := s3.keep.trans s25.keep
      refine ⟨hlt, _, acc, yd, rest, a1, free_rest _ c2, kp2.trans fun c hc => a5 c (.inr hc), vl2.trans a2, pn2.trans a4, ?_, RepL.le a2 ra, el, ey⟩
      rw [a5 p (.inl rfl)]; exact ep
    | true =>
      refine iteT ?_
      obtain ⟨⟨items1, ρ5⟩, ei, el⟩ := ob_inv el
      obtain ⟨g5, el⟩ := grd_inv el
      obtain ⟨⟨yv, ρ6⟩, ev, el⟩ := ob_inv el
      obtain ⟨⟨zs, ρ7⟩, er, el⟩ := ob_inv el
      cases el
      refine ⟨fp F p, ρ4, items1, ρ5, s5.rel, ei, fun H6 J1 s6 hJ1 => ?_⟩
      have I1 := hJ1 (fp F p) _ s6.rel (.refl _)
      have s26 := s25.trans s6
      have k26 := s3.keep.trans s26.keep
      have ep6 : H6 p = some (.lst acc) := by rw [k26 p (.inl rfl)]; exact ep
      have vl26 : Vle (vis (fp F p) ρ2 σ H2) (vis (fp F p) ρ5 σ4 H6) := s3.vle.trans (vw.trans s26.vle)
      refine lcIn (acc0 := acc) (yd0 := yd) (rest0 := yv) I1 nfp s6.rel g5 ep6 (RepL.le vl26 ra) ev ?_ fun H7 acc7 r7 kp7 vl7 pn7 ep7 ra7 => ?_
      · have l2 := congrArg List.length ey
        simp only [List.length_append] at l2
        omega
      · obtain ⟨a1, a2, a3, a4⟩ := back r7 (s26.vle.trans vl7) (s26.pin.trans pn7)
        refine ⟨hlt, _, acc7, yd ++ yv, zs, a1, free_rest _ c2, ?_, vl2.trans a2, pn2.trans a4, ep7, RepL.le a3 ra7, er, by rw [List.append_assoc]; exact ey⟩
        intro c hc
        rw [kp7 c hc, k26 c (.inr hc)]
        exact kp2 c hc
  · have ei : i = items.length := by omega
    subst ei
    rw [List.drop_length] at el
    cases el
    rw [List.append_nil] at ey
    subst ey
    refine .inl ⟨I.stop _ ρz σ H2 R2 vl2 (Nat.le_refl _), k H2 p (.lst acc) R2 ep ra nfp (s1.keep.trans kp2) (s1.vle.trans (vl1.trans vl2)) (s1.pin.trans pn2)⟩
theorem df_lc2 {elt tg iter tg1 iter1 : Expr} {ifs ifs1 : List Expr} {scope : Scope} {own : List (Str × Nat)} {vs1 : List Nat} {pos : Pos} {it it1 : LI} {g g1 : GV} {t t1 : TV} {e : EV} (hc : X.calm = true) (hN : X.N.Nodup) (hi : DI X tg iter it) (ok : BlkOk X.N X.env.scope scope own) (hv : ∀ i ∈ vs1, i ∈ own.map (·.2))
    (hg : ∀ (s : Shared) (H : Hp) (C : Addr) (cl : List (Str × Addr)) (fp : List Addr), DG (X.blk s H scope (compEnvC scope cl C X.env) fp) tg (own.map (·.2)) g) (ht : ∀ (s : Shared) (H : Hp) (C : Addr) (cl : List (Str × Addr)) (fp : List Addr), DPs (X.blk s H scope (compEnvC scope cl C X.env) fp) ifs t)
    (hi1 : ∀ (s : Shared) (H : Hp) (C : Addr) (cl : List (Str × Addr)) (fp : List Addr), DI (X.blk s H scope (compEnvC scope cl C X.env) fp) tg1 iter1 it1)
    (hg1 : ∀ (s : Shared) (H : Hp) (C : Addr) (cl : List (Str × Addr)) (fp : List Addr), DG (X.blk s H scope (compEnvC scope cl C X.env) fp) tg1 vs1 g1) (ht1 : ∀ (s : Shared) (H : Hp) (C : Addr) (cl : List (Str × Addr)) (fp : List Addr), DPs (X.blk s H scope (compEnvC scope cl C X.env) fp) ifs1 t1)
    (he : ∀ (s : Shared) (H : Hp) (C : Addr) (cl : List (Str × Addr)) (fp : List Addr), DE (X.blk s H scope (compEnvC scope cl C X.env) fp) elt e) (hs : ∀ x, foldedSetIterable iter X.env x = pure x := by intro _; rfl) (hs1 : ∀ env x, foldedSetIterable iter1 env x = pure x := by intro _ _; rfl) :
    DF X (.ListComp elt [⟨tg, iter, ifs, 0⟩, ⟨tg1, iter1, ifs1, 0⟩] scope pos) (mLc2 it g t it1 g1 t1 e (own.map (·.2)) vs1) := pe_weak (@pe_lc2 X elt tg iter tg1 iter1 ifs ifs1 scope own vs1 pos (tDI X.K it) (tDI X.K it1) (tDG X.K (own.map fun x : Str × Nat => x.2) g) (tDG X.K vs1 g1) (tDT X.K t) (tDT X.K t1) (tD X.K e) hc hN hi ok hv hg ht hi1 hg1 ht1 he hs hs1) fun σ H Q h => lcD2 h
theorem ds_setLc2 {i : Nat} {y : Str} {py : Pos} {elt iter tg1 iter1 : Expr} {ifs ifs1 : List Expr} {scope : Scope} {own : List (Str × Nat)} {vs1 : List Nat} {pos spos : Pos} {it it1 : LI} {g g1 : GV} {t t1 : TV} {e : EV} (hc : X.calm = true)
    (hsw : swapsWith (.ListComp elt [⟨tg, iter, ifs, 0⟩, ⟨tg1, iter1, ifs1, 0⟩] scope pos) (some (.Name y py)) spos.line X.env = pure true) (own' : True := trivial) (hN : X.N.Nodup) (hy : X.N[i]? = some y) (hyl : X.env.scope.names.lookup y = some .local) (hi : DI X tg iter it) (ok : BlkOk X.N X.env.scope scope own) (hv : ∀ i ∈ vs1, i ∈ own.map (·.2))
    (hg : ∀ (s : Shared) (H : Hp) (C : Addr) (cl : List (Str × Addr)) (fp : List Addr), DG (X.blk s H scope (compEnvC scope cl C X.env) fp) tg (own.map (·.2)) g) (ht : ∀ (s : Shared) (H : Hp) (C : Addr) (cl : List (Str × Addr)) (fp : List Addr), DPs (X.blk s H scope (compEnvC scope cl C X.env) fp) ifs t)
    (hi1 : ∀ (s : Shared) (H : Hp) (C : Addr) (cl : List (Str × Addr)) (fp : List Addr), DI (X.blk s H scope (compEnvC scope cl C X.env) fp) tg1 iter1 it1)
    (hg1 : ∀ (s : Shared) (H : Hp) (C : Addr) (cl : List (Str × Addr)) (fp : List Addr), DG (X.blk s H scope (compEnvC scope cl C X.env) fp) tg1 vs1 g1) (ht1 : ∀ (s : Shared) (H : Hp) (C : Addr) (cl : List (Str × Addr)) (fp : List Addr), DPs (X.blk s H scope (compEnvC scope cl C X.env) fp) ifs1 t1)
    (he : ∀ (s : Shared) (H : Hp) (C : Addr) (cl : List (Str × Addr)) (fp : List Addr), DE (X.blk s H scope (compEnvC scope cl C X.env) fp) elt e) (hs : ∀ x, foldedSetIterable iter X.env x = pure x := by intro _; rfl) (hs1 : ∀ env x, foldedSetIterable iter1 env x = pure x := by intro _ _; rfl) :
    DS X (.Assign [.Name y py] (.ListComp elt [⟨tg, iter, ifs, 0⟩, ⟨tg1, iter1, ifs1, 0⟩] scope pos) spos) (sSet (gVar i) (mFr (mLc2 it g t it1 g1 t1 e (own.map (·.2)) vs1))) :=
  ps_weak (@ps_setLc2 X i y py elt tg iter tg1 iter1 ifs ifs1 scope own vs1 pos spos (tDI X.K it) (tDI X.K it1) (tDG X.K (own.map fun x : Str × Nat => x.2) g) (tDG X.K vs1 g1) (tDT X.K t) (tDT X.K t1) (tD X.K e) hc hN hy hyl hsw hi ok hv hg ht hi1 hg1 ht1 he hs hs1) fun D σ H h => by
    have h2 := tD_mono (setD (ws := [i]) h) fun v H q => gName_of q
    obtain ⟨F, ρ, x, ρ', R, em, k⟩ := h2
    obtain ⟨d, ρ1, e1, e2⟩ := bd_inv em
    cases e2
    exact lcD2 ⟨F, ρ, d, ρ', R, e1, fun H' p o R' ep ho nf kp vl pn => k H' _ ⟨R'.show, kp, vl.trans vle_unfp, pn⟩ (R'.shown nf ep ho)⟩
theorem ds_setLc2F {i : Nat} {y : Str} {py : Pos} {elt iter tg1 iter1 : Expr} {ifs ifs1 : List Expr} {scope : Scope} {own : List (Str × Nat)} {vs1 : List Nat} {pos spos : Pos} {it it1 : LI} {g g1 : GV} {t t1 : TV} {e : EV} (hc : X.calm = true)
    (hsw : swapsWith (.ListComp elt [⟨tg, iter, ifs, 0⟩, ⟨tg1, iter1, ifs1, 0⟩] scope pos) (some (.Name y py)) spos.line X.env = pure true) (own' : True := trivial) (hN : X.N.Nodup) (hy : X.N[i]? = some y) (hyl : X.env.scope.names.lookup y = some .local) (hi : DI X tg iter it) (ok : BlkOk X.N X.env.scope scope own) (hv : ∀ i ∈ vs1, i ∈ own.map (·.2))
    (hg : ∀ (s : Shared) (H : Hp) (C : Addr) (cl : List (Str × Addr)) (fp : List Addr), DG (X.blk s H scope (compEnvC scope cl C X.env) fp) tg (own.map (·.2)) g) (ht : ∀ (s : Shared) (H : Hp) (C : Addr) (cl : List (Str × Addr)) (fp : List Addr), DPs (X.blk s H scope (compEnvC scope cl C X.env) fp) ifs t)
    (hi1 : ∀ (s : Shared) (H : Hp) (C : Addr) (cl : List (Str × Addr)) (fp : List Addr), DI (X.blk s H scope (compEnvC scope cl C X.env) fp) tg1 iter1 it1)
    (hg1 : ∀ (s : Shared) (H : Hp) (C : Addr) (cl : List (Str × Addr)) (fp : List Addr), DG (X.blk s H scope (compEnvC scope cl C X.env) fp) tg1 vs1 g1) (ht1 : ∀ (s : Shared) (H : Hp) (C : Addr) (cl : List (Str × Addr)) (fp : List Addr), DPs (X.blk s H scope (compEnvC scope cl C X.env) fp) ifs1 t1)
    (he : ∀ (s : Shared) (H : Hp) (C : Addr) (cl : List (Str × Addr)) (fp : List Addr), DE (X.blk s H scope (compEnvC scope cl C X.env) fp) elt e) (hs : ∀ x, foldedSetIterable iter X.env x = pure x := by intro _; rfl) (hs1 : ∀ env x, foldedSetIterable iter1 env x = pure x := by intro _ _; rfl) :
    DS X (.Assign [.Name y py] (.ListComp elt [⟨tg, iter, ifs, 0⟩, ⟨tg1, iter1, ifs1, 0⟩] scope pos) spos) (sSetF i (mLc2 it g t it1 g1 t1 e (own.map (·.2)) vs1)) :=
  ps_weak (@ps_setLc2 X i y py elt tg iter tg1 iter1 ifs ifs1 scope own vs1 pos spos (tDI X.K it) (tDI X.K it1) (tDG X.K (own.map fun x : Str × Nat => x.2) g) (tDG X.K vs1 g1) (tDT X.K t) (tDT X.K t1) (tD X.K e) hc hN hy hyl hsw hi ok hv hg ht hi1 hg1 ht1 he hs hs1) fun D σ H h => lcD2 (setFD h)
end
end DL

set_option Elab.async false
set_option linter.all false
set_option maxRecDepth 100000
namespace DL
open PySem PySem.Spec L2
set_option autoImplicit false
/-! ### evaluation, row by row: only at a written environment -/
def bdo {α β : Type} (r : Option (α × Env')) (k : α → Env' → Option β) : Option β := match r with
  | some (x, ρ1) => k x ρ1
  | none => none
def seqo (r : Option Res) (n : SVt) : Option Res := match r with
  | some (.nx ρ1) => n ρ1
  | some (.rt d ρ1) => some (.rt d ρ1)
  | some (.bk ρ1) => some (.bk ρ1)
  | some (.ct ρ1) => some (.ct ρ1)
  | none => none
def ifo (r : Option (Bool × Env')) (m n : SVt) : Option Res := match r with
  | some (true, ρ1) => m ρ1
  | some (false, ρ1) => n ρ1
  | none => none
/-- a slot that holds data or nothing -/
def ov (x : Option D) : Option SV := match x with
  | some d => some (.v d)
  | none => none
section
variable {α β : Type} {o : Option SV} {ρ : Env'} {i j : Nat} {x : A} {d e : D} {b : Bool}
theorem e_bdo {k : α → Env' → Option β} {y : α} : bdo (some (y, ρ)) k = k y ρ := rfl
theorem e_bdn {k : α → Env' → Option β} : bdo none k = none := rfl
theorem e_bd {m : Env' → Option (α × Env')} {k : α → Env' → Option β} : bd m k (o :: ρ) = bdo (m (o :: ρ)) k := rfl
theorem e_ob {k : α → Option β} {y : α} : ob (some y) k = k y := rfl
theorem e_obn {k : α → Option β} : ob none k = none := rfl
theorem e_grt {k : Option β} : grd true k = k := rfl
theorem e_grf {k : Option β} : grd false k = none := rfl
/-! env -/
theorem e_set0 {y : Option SV} : List.set (o :: ρ) 0 y = y :: ρ := rfl
theorem e_setS {y : Option SV} : List.set (o :: ρ) (i + 1) y = o :: List.set ρ i y := rfl
theorem e_can0 : canSet (none :: ρ) 0 = true := rfl
theorem e_can1 : canSet (some (.v d) :: ρ) 0 = true := rfl
theorem e_can2 : canSet (some (.o false d) :: ρ) 0 = true := rfl
theorem e_can3 {y : Option D} : canSet (ov y :: ρ) 0 = true := by cases y <;> rfl
theorem e_canS : canSet (o :: ρ) (i + 1) = canSet ρ i := by
  unfold canSet pinned
  simp only [List.length_cons, Nat.add_lt_add_iff_right, List.getElem?_cons_succ]
theorem e_own0 : owned (some (.o b d) :: ρ) 0 = true := rfl
theorem e_ownS : owned (o :: ρ) (i + 1) = owned ρ i := by unfold owned; simp only [List.getElem?_cons_succ]
theorem e_iol0 {l : List D} : isOwnL (some (.o b (.lst l)) :: ρ) 0 = true := rfl
theorem e_iolS : isOwnL (o :: ρ) (i + 1) = isOwnL ρ i := by unfold isOwnL; simp only [List.getElem?_cons_succ]
/-! slots -/
def gt (ρ : Env') (i : Nat) : Option SV := (ρ[i]?).getD none
theorem e_gt0 : gt (o :: ρ) 0 = o := rfl
theorem e_gtS : gt (o :: ρ) (i + 1) = gt ρ i := by unfold gt; simp only [List.getElem?_cons_succ]
def rdo (o : Option SV) (i : Nat) (ρ : Env') : Option (A × Env') := match o with
  | some (.v d) => some (.v d, ρ)
  | some (.o _ _) => some (.s i, ρ)
  | none => none
theorem e_var : mVar i (o :: ρ) = rdo (gt (o :: ρ) i) i (o :: ρ) := by
  unfold mVar gt rdo
  cases (o :: ρ)[i]? with
  | none => rfl
  | some y => cases y with
    | none => rfl
    | some y => cases y <;> rfl
theorem e_rdv : rdo (some (.v d)) i ρ = some (.v d, ρ) := rfl
theorem e_rdo : rdo (some (.o b d)) i ρ = some (.s i, ρ) := rfl
theorem e_c : mC d ρ = some (.v d, ρ) := rfl
theorem e_drv : deref ρ (.v d) = some d := rfl
def dro (o : Option SV) : Option D := match o with
  | some (.v d) => some d
  | some (.o _ d) => some d
  | none => none
theorem e_drs : deref ρ (.s i) = dro (gt ρ i) := by
  rcases h : ρ[i]? with _ | _ | _ | _ <;> simp only [deref, gt, dro, h, Option.getD]
theorem e_drov : dro (some (.v d)) = some d := rfl
theorem e_droo : dro (some (.o b d)) = some d := rfl
theorem e_tvv : toV ρ (.v d) = some (d, ρ) := rfl
def tvo (o : Option SV) (i : Nat) (ρ : Env') : Option (D × Env') := match o with
  | some (.v d) => some (d, ρ)
  | some (.o false d) => some (d, ρ.set i (some (.v d)))
  | _ => none
theorem e_tvs : toV ρ (.s i) = tvo (gt ρ i) i ρ := by
  rcases h : ρ[i]? with _ | _ | _ | ⟨_ | _, _⟩ <;> simp only [toV, gt, tvo, h, Option.getD]
theorem e_tvov : tvo (some (.v d)) i ρ = some (d, ρ) := rfl
theorem e_tvoo : tvo (some (.o false d)) i ρ = some (d, ρ.set i (some (.v d))) := rfl
theorem e_tvl0 : toVL ρ [] = some ([], ρ) := rfl
theorem e_tvl1 {xs : List A} : toVL ρ (x :: xs) = ob (toV ρ x) fun p => ob (toVL p.2 xs) fun q => some (p.1 :: q.1, q.2) := by
  show (match toV ρ x with | some (d, ρ1) => _ | none => none) = _
  unfold ob
  cases toV ρ x with
  | none => rfl
  | some p =>
    obtain ⟨d, ρ1⟩ := p
    show (match toVL ρ1 xs with | some (ds, ρ2) => _ | none => none) = _
    cases e : toVL ρ1 xs with
    | none => simp only [e]
    | some q => obtain ⟨ds, ρ2⟩ := q; simp only [e]
theorem e_drl0 : derefL ρ [] = some [] := rfl
theorem e_drl1 {xs : List A} : derefL ρ (x :: xs) = ob (deref ρ x) fun d => ob (derefL ρ xs) fun ds => some (d :: ds) := by
  show (match deref ρ x, derefL ρ xs with | some d, some ds => some (d :: ds) | _, _ => none) = _
  unfold ob
  cases deref ρ x with
  | none => rfl
  | some p =>
    cases e : derefL ρ xs with
    | none => simp only [e]
    | some q => simp only [e]
/-! expressions -/
variable {f g : D → D → Option D} {h : D → Option D} {fl : List D → Option D} {m n : EV} {c t : TV} {ms : LV} {mf : FV} {den : List D → Option D} {it : LI} {gv : GV} {s r : SVt}
theorem e_m2 : m2 f m n (o :: ρ) = bdo (m (o :: ρ)) fun x => bd n fun y ρ => ob (deref ρ x) fun d => ob (deref ρ y) fun e => ob (f d e) fun z => some (.v z, ρ) := rfl
theorem e_m2F : m2F f m n (o :: ρ) = bdo (m (o :: ρ)) fun x => bd n fun y ρ => ob (deref ρ x) fun d => ob (deref ρ y) fun e => ob (f d e) fun z => some (z, ρ) := rfl
theorem e_m1 : m1 h m (o :: ρ) = bdo (m (o :: ρ)) fun x ρ => ob (deref ρ x) fun d => ob (h d) fun z => some (.v z, ρ) := rfl
def tbo (x : A) (ρ : Env') : Option (Bool × Env') := match x with
  | .v (.bl b) => some (b, ρ)
  | _ => none
theorem e_mT : mT m (o :: ρ) = bdo (m (o :: ρ)) tbo := rfl
theorem e_tbo : tbo (.v (.bl b)) ρ = some (b, ρ) := rfl
theorem e_mFr : mFr mf (o :: ρ) = bdo (mf (o :: ρ)) fun d ρ => some (.v d, ρ) := rfl
theorem e_nil : lNil ρ = some ([], ρ) := rfl
theorem e_cons : lCons m ms (o :: ρ) = bdo (m (o :: ρ)) fun x => bd ms fun xs ρ => some (x :: xs, ρ) := rfl
theorem e_mB : mB fl ms (o :: ρ) = bdo (ms (o :: ρ)) fun xs ρ => ob (derefL ρ xs) fun ds => ob (fl ds) fun z => some (.v z, ρ) := rfl
theorem e_mBF : mBF fl ms (o :: ρ) = bdo (ms (o :: ρ)) fun xs ρ => ob (derefL ρ xs) fun ds => ob (fl ds) fun z => some (z, ρ) := rfl
theorem e_tup : mTup ms (o :: ρ) = bdo (ms (o :: ρ)) fun xs ρ => ob (toVL ρ xs) fun p => grd (lineOk p.1.length) (some (.v (.tup p.1), p.2)) := rfl
theorem e_lst : mLst ms (o :: ρ) = bdo (ms (o :: ρ)) fun xs ρ => ob (toVL ρ xs) fun p => grd (lineOk p.1.length) (some (.lst p.1, p.2)) := rfl
theorem e_call : mCall den ms (o :: ρ) = bdo (ms (o :: ρ)) fun xs ρ => ob (toVL ρ xs) fun p => ob (den p.1) fun d => some (.v d, p.2) := rfl
theorem e_callF : mCallF den ms (o :: ρ) = bdo (ms (o :: ρ)) fun xs ρ => ob (toVL ρ xs) fun p => ob (den p.1) fun d => some (d, p.2) := rfl
def ioo (den : D → List D → Option (D × D)) (o : Option SV) (i : Nat) (p : List D × Env') : Option (A × Env') := match o with
  | some (.o b d0) => ob (den d0 p.1) fun q => some (.v q.1, p.2.set i (some (.o b q.2)))
  | _ => none
theorem e_callIO {den : D → List D → Option (D × D)} : mCallIO den i ms (o :: ρ) = grd (owned (o :: ρ) i) (bdo (ms (o :: ρ)) fun xs ρ => ob (toVL ρ xs) fun p => ioo den (gt p.2 i) i p) := by
  unfold mCallIO
  congr 1
  show bdo _ _ = bdo _ _
  congr 1
  funext xs ρ
  congr 1
  funext p
  unfold gt ioo
  cases p.2[i]? with
  | none => rfl
  | some y => cases y with
    | none => rfl
    | some y => cases y <;> rfl
theorem e_ioo {den : D → List D → Option (D × D)} {p : List D × Env'} : ioo den (some (.o b d)) i p = ob (den d p.1) fun q => some (.v q.1, p.2.set i (some (.o b q.2))) := rfl
def ando (n : EV) (x : A) (ρ : Env') : Option (A × Env') := match x with
  | .v (.bl true) => n ρ
  | .v (.bl false) => some (.v (.bl false), ρ)
  | _ => none
def oro (n : EV) (x : A) (ρ : Env') : Option (A × Env') := match x with
  | .v (.bl true) => some (.v (.bl true), ρ)
  | .v (.bl false) => n ρ
  | _ => none
def noto (x : A) (ρ : Env') : Option (A × Env') := match x with
  | .v (.bl b) => some (.v (.bl (!b)), ρ)
  | _ => none
theorem e_and : eAnd m n (o :: ρ) = bdo (m (o :: ρ)) (ando n) := rfl
theorem e_andt : ando n (.v (.bl true)) ρ = n ρ := rfl
theorem e_andf : ando n (.v (.bl false)) ρ = some (.v (.bl false), ρ) := rfl
theorem e_or : eOr m n (o :: ρ) = bdo (m (o :: ρ)) (oro n) := rfl
theorem e_ort : oro n (.v (.bl true)) ρ = some (.v (.bl true), ρ) := rfl
theorem e_orf : oro n (.v (.bl false)) ρ = n ρ := rfl
theorem e_not : eNot m (o :: ρ) = bdo (m (o :: ρ)) noto := rfl
theorem e_noto : noto (.v (.bl b)) ρ = some (.v (.bl (!b)), ρ) := rfl
def bo {α : Type} (b : Bool) (m n : Env' → α) (ρ : Env') : α := match b with
  | true => m ρ
  | false => n ρ
theorem e_bot {m n : Env' → α} : bo true m n ρ = m ρ := rfl
theorem e_bof {m n : Env' → α} : bo false m n ρ = n ρ := rfl
theorem e_if : eIf c m n (o :: ρ) = bdo (c (o :: ρ)) fun b => bo b m n := by
  show bdo _ _ = bdo _ _
  congr 1
theorem e_tand : tAnd' c t (o :: ρ) = bdo (c (o :: ρ)) fun b => bo b t fun ρ => some (false, ρ) := by
  show bdo _ _ = bdo _ _
  congr 1
theorem e_tor : tOr' c t (o :: ρ) = bdo (c (o :: ρ)) fun b => bo b (fun ρ => some (true, ρ)) t := by
  show bdo _ _ = bdo _ _
  congr 1
theorem e_tnot : tNot' c (o :: ρ) = bdo (c (o :: ρ)) fun b ρ => some (!b, ρ) := rfl
theorem e_isi {ty : Ty} : mIsi ty m (o :: ρ) = bdo (m (o :: ρ)) fun x ρ => ob (deref ρ x) fun d => ob (isT ty d) fun b => some (.v (.bl b), ρ) := rfl
/-! statements -/
theorem e_seq : sSeq s r (o :: ρ) = seqo (s (o :: ρ)) r := rfl
theorem e_seqn : seqo (some (.nx ρ)) r = r ρ := rfl
theorem e_seqr : seqo (some (.rt d ρ)) r = some (.rt d ρ) := rfl
theorem e_seqb : seqo (some (.bk ρ)) r = some (.bk ρ) := rfl
theorem e_seqc : seqo (some (.ct ρ)) r = some (.ct ρ) := rfl
theorem e_seqo : seqo none r = none := rfl
theorem e_snil : sNil ρ = some (.nx ρ) := rfl
theorem e_sno : sNo ρ = none := rfl
theorem e_sif : sIf c s r (o :: ρ) = ifo (c (o :: ρ)) s r := rfl
theorem e_ift : ifo (some (true, ρ)) s r = s ρ := rfl
theorem e_iff : ifo (some (false, ρ)) s r = r ρ := rfl
theorem e_set : sSet gv m (o :: ρ) = ob (m (o :: ρ)) fun p => ob (toV p.2 p.1) fun q => ob (gv q.1 q.2) fun ρ3 => some (.nx ρ3) := rfl
theorem e_setF : sSetF i mf (o :: ρ) = ob (mf (o :: ρ)) fun p => grd (canSet p.2 i) (some (.nx (p.2.set i (some (.o false p.1))))) := rfl
theorem e_ret : sRet m (o :: ρ) = ob (m (o :: ρ)) fun p => ob (toV p.2 p.1) fun q => some (.rt q.1 q.2) := rfl
theorem e_expr : sExpr m (o :: ρ) = ob (m (o :: ρ)) fun p => some (.nx p.2) := by
  unfold sExpr ob
  cases m (o :: ρ) <;> rfl
theorem e_gvar : gVar i d ρ = grd (canSet ρ i) (some (ρ.set i (some (.v d)))) := rfl
def par2 (i j : Nat) (ds : List D) (ρ : Env') : Option Res := match ds with
  | [d, e] => grd (canSet ρ i && canSet ρ j && decide (i ≠ j)) (some (.nx ((ρ.set i (some (.v d))).set j (some (.v e)))))
  | _ => none
theorem e_par : sPar i j m n (o :: ρ) = ob (lCons m (lCons n lNil) (o :: ρ)) fun p => ob (toVL p.2 p.1) fun q => par2 i j q.1 q.2 := rfl
theorem dne {i j : Nat} : decide (i ≠ j) = !(i == j) := by by_cases h : i = j <;> simp [h]
theorem e_par2 : par2 i j [d, e] ρ = grd (canSet ρ i && canSet ρ j && !(i == j)) (some (.nx ((ρ.set i (some (.v d))).set j (some (.v e))))) := by rw [← dne]; rfl
def par3 (i j l : Nat) (ds : List D) (ρ : Env') : Option Res := match ds with
  | [d, e, f] => grd (canSet ρ i && canSet ρ j && canSet ρ l && decide (i ≠ j) && decide (i ≠ l) && decide (j ≠ l)) (some (.nx (((ρ.set i (some (.v d))).set j (some (.v e))).set l (some (.v f)))))
  | _ => none
theorem e_par3o {k : Nat} {n2 : EV} : sPar3 i j k m n n2 (o :: ρ) = ob (lCons m (lCons n (lCons n2 lNil)) (o :: ρ)) fun p => ob (toVL p.2 p.1) fun q => par3 i j k q.1 q.2 := rfl
theorem e_par3 {k : Nat} {f : D} : par3 i j k [d, e, f] ρ = grd (canSet ρ i && canSet ρ j && canSet ρ k && (!(i == j)) && (!(i == k)) && !(j == k)) (some (.nx (((ρ.set i (some (.v d))).set j (some (.v e))).set k (some (.v f))))) := by rw [← dne, ← dne, ← dne]; rfl
theorem e_gtup {k : Nat} {gs : GVs} {l : List D} : gTup' k gs (.tup l) ρ = grd (decide (l.length = k)) (gs l ρ) := rfl
theorem e_gcons {gs : GVs} {l : List D} : gCons' gv gs (d :: l) ρ = ob (gv d ρ) fun ρ1 => gs l ρ1 := rfl
theorem e_gnil : gNil' [] ρ = some ρ := rfl
theorem e_for : sFor it gv s (o :: ρ) = bdo (it (o :: ρ)) fun l => forL gv s l := by
  unfold sFor bdo
  cases it (o :: ρ) with
  | none => rfl
  | some p => rfl
def sqo (d : D) (ρ : Env') : Option (List D × Env') := match d with
  | .lst ds => some (ds, ρ)
  | .tup ds => some (ds, ρ)
  | _ => none
theorem e_sq : iSq m (o :: ρ) = ob (m (o :: ρ)) fun p => ob (toV p.2 p.1) fun q => sqo q.1 q.2 := rfl
theorem e_sql {l : List D} : sqo (.lst l) ρ = some (l, ρ) := rfl
theorem e_sqt {l : List D} : sqo (.tup l) ρ = some (l, ρ) := rfl
def rgo (l : List D) (ρ : Env') : Option (List D × Env') := match l with
  | [.int j] => grd (decide (-(2 ^ 62) ≤ j ∧ j < 2 ^ 62)) (some (rngL 0 j.toNat, ρ))
  | _ => none
theorem e_r1 : iRange1 m (o :: ρ) = ob (lCons m lNil (o :: ρ)) fun p => ob (toVL p.2 p.1) fun q => rgo q.1 q.2 := rfl
def rgOk (j : Int) : Bool := decide (-(2 ^ 62) ≤ j ∧ j < 2 ^ 62)
theorem e_rgo {j : Int} : rgo [.int j] ρ = grd (rgOk j) (some (rngL 0 j.toNat, ρ)) := rfl
def rgo2 (l : List D) (ρ : Env') : Option (List D × Env') := match l with
  | [.int i, .int j] => grd (decide (-(2 ^ 62) ≤ i ∧ i < 2 ^ 62 ∧ -(2 ^ 62) ≤ j ∧ j < 2 ^ 62)) (some (rngL i (j - i).toNat, ρ))
  | _ => none
theorem e_r2 : iRange2 m n (o :: ρ) = ob (lCons m (lCons n lNil) (o :: ρ)) fun p => ob (toVL p.2 p.1) fun q => rgo2 q.1 q.2 := rfl
theorem e_rgo2 {i j : Int} : rgo2 [.int i, .int j] ρ = grd (rgOk i && rgOk j) (some (rngL i (j - i).toNat, ρ)) := by
  show grd _ _ = _
  unfold rgOk
  congr 1
  rw [← Bool.decide_and]
  exact decide_eq_decide.mpr ⟨fun h => ⟨⟨h.1, h.2.1⟩, h.2.2⟩, fun h => ⟨h.1.1, h.1.2, h.2⟩⟩
def fr (o : Option SV) : Bool := match o with
  | some (.o _ _) => false
  | _ => true
theorem e_frn : fr none = true := rfl
theorem e_frv : fr (some (.v d)) = true := rfl
theorem e_fro {x : Option D} : fr (ov x) = true := by cases x <;> rfl
theorem e_fr1 : freeE ρ [i] = fr (gt ρ i) := by
  unfold freeE gt fr
  simp only [List.all_cons, List.all_nil, Bool.and_true]
  rcases ρ[i]? with _ | _ | _ | _ <;> rfl
theorem e_fr2 : freeE ρ [i, j] = (fr (gt ρ i) && fr (gt ρ j)) := by
  unfold freeE gt fr
  simp only [List.all_cons, List.all_nil, Bool.and_true]
  rcases ρ[i]? with _ | _ | _ | _ <;> rcases ρ[j]? with _ | _ | _ | _ <;> rfl
theorem e_wi1 : wipeE ρ [i] = ρ.set i none := rfl
theorem e_wi2 : wipeE ρ [i, j] = (ρ.set j none).set i none := rfl
theorem e_re1 {ρ0 : Env'} : restE ρ0 ρ [i] = ρ.set i (gt ρ0 i) := rfl
theorem e_re2 {ρ0 : Env'} : restE ρ0 ρ [i, j] = (ρ.set j (gt ρ0 j)).set i (gt ρ0 i) := rfl
def lct (e : EV) (ρ : Env') (vs : List Nat) (b : Bool) (ρ1 : Env') : Option (Option D × Env') := match b with
  | true => ob (e ρ1) fun q => ob (toV q.2 q.1) fun y => some (some y.1, restE ρ y.2 vs)
  | false => some (none, restE ρ ρ1 vs)
/-- one turn of a list comprehension -/
def lcT (g : GV) (t : TV) (e : EV) (vs : List Nat) (d : D) (ρ : Env') : Option (Option D × Env') := ob (g d (wipeE ρ vs)) fun ρ1 => ob (t ρ1) fun p => lct e ρ vs p.1 p.2
theorem e_lcT {vs : List Nat} : lcT gv c m vs d ρ = ob (gv d (wipeE ρ vs)) fun ρ1 => ob (c ρ1) fun p => lct m ρ vs p.1 p.2 := rfl
theorem e_lctt {vs : List Nat} {ρ1 : Env'} : lct m ρ vs true ρ1 = ob (m ρ1) fun q => ob (toV q.2 q.1) fun y => some (some y.1, restE ρ y.2 vs) := rfl
theorem e_lctf {vs : List Nat} {ρ1 : Env'} : lct m ρ vs false ρ1 = some (none, restE ρ ρ1 vs) := rfl
theorem lcL_cons {vs : List Nat} {ds : List D} {x : Option D} {ρ1 : Env'} (h : lcT gv c m vs d ρ = some (x, ρ1)) : lcL gv c m vs (d :: ds) ρ = ob (lcL gv c m vs ds ρ1) fun z => some (x.toList ++ z.1, z.2) := by
  unfold lcT at h
  rw [lcL]
  cases e1 : gv d (wipeE ρ vs) with
  | none => rw [e1] at h; cases h
  | some ρ2 =>
    rw [e1] at h
    simp only [e_ob] at h ⊢
    cases e2 : c ρ2 with
    | none => rw [e2] at h; cases h
    | some p =>
      obtain ⟨b, ρ3⟩ := p
      rw [e2] at h
      simp only [e_ob] at h ⊢
      cases b with
      | false =>
        simp only [e_lctf, Option.some.injEq, Prod.mk.injEq] at h
        obtain ⟨rfl, rfl⟩ := h
        simp only [Option.toList, List.nil_append]
        cases lcL gv c m vs ds (restE ρ ρ3 vs) <;> rfl
      | true =>
        simp only [e_lctt] at h
        cases e3 : m ρ3 with
        | none => rw [e3] at h; cases h
        | some q =>
          rw [e3] at h
          simp only [e_ob] at h ⊢
          cases e4 : toV q.2 q.1 with
          | none => rw [e4] at h; cases h
          | some y =>
            rw [e4] at h
            simp only [e_ob, Option.some.injEq, Prod.mk.injEq] at h ⊢
            obtain ⟨rfl, rfl⟩ := h
            rfl
/-- a comprehension that changes nothing -/
theorem lc_pure {vs : List Nat} {f : D → Option D} : ∀ {ds : List D}, (∀ d ∈ ds, lcT gv c m vs d ρ = some (f d, ρ)) → lcL gv c m vs ds ρ = some (ds.filterMap f, ρ)
  | [], _ => rfl
  | d :: ds, h => by
    rw [lcL_cons (h d List.mem_cons_self), lc_pure fun x hx => h x (List.mem_cons_of_mem _ hx), e_ob, List.filterMap_cons]
    cases f d <;> rfl
theorem lc_none {vs : List Nat} {ds : List D} (h : ∀ d ∈ ds, lcT gv c m vs d ρ = some (none, ρ)) : lcL gv c m vs ds ρ = some ([], ρ) := by
  rw [lc_pure (f := fun _ => none) h]
  simp
theorem lc_map {vs : List Nat} {f : D → D} {ds : List D} (h : ∀ d ∈ ds, lcT gv c m vs d ρ = some (some (f d), ρ)) : lcL gv c m vs ds ρ = some (ds.map f, ρ) := by
  rw [lc_pure (f := fun d => some (f d)) h]
  simp
/-- a comprehension with an invariant -/
theorem lc_inv {vs : List Nat} (I : Env' → Prop) (Q : D → Prop) : ∀ {ds : List D} {ρ : Env'}, I ρ → (∀ d ∈ ds, ∀ ρ, I ρ → ∃ y ρ1, lcT gv c m vs d ρ = some (some y, ρ1) ∧ Q y ∧ I ρ1) → ∃ ys ρ1, lcL gv c m vs ds ρ = some (ys, ρ1) ∧ I ρ1 ∧ ys.length = ds.length ∧ ∀ y ∈ ys, Q y
  | [], ρ, h, _ => ⟨[], ρ, rfl, h, rfl, fun _ h => nomatch h⟩
  | d :: ds, ρ, h, st => by
    obtain ⟨y, ρ1, e1, q, h1⟩ := st d List.mem_cons_self ρ h
    obtain ⟨ys, ρ2, e2, h2, hl, hq⟩ := lc_inv I Q h1 fun d' hd => st d' (List.mem_cons_of_mem _ hd)
    refine ⟨y :: ys, ρ2, by rw [lcL_cons e1, e2]; rfl, h2, by simp [hl], fun z hz => ?_⟩
    rcases List.mem_cons.mp hz with rfl | hz
    · exact q
    · exact hq z hz
def slo (d : D) (lo hi : Option Int) (ρ : Env') : Option (D × Env') := match d with
  | .lst l => some (.lst (cutD l lo hi), ρ)
  | _ => none
theorem e_slL {ml mh : OV} : mSlL m ml mh (o :: ρ) = bdo (m (o :: ρ)) fun x => bd ml fun lo => bd mh fun hi ρ => ob (deref ρ x) fun d => slo d lo hi ρ := rfl
theorem e_slo {l : List D} {lo hi : Option Int} : slo (.lst l) lo hi ρ = some (.lst (cutD l lo hi), ρ) := rfl
def oso (x : A) (ρ : Env') : Option (Option Int × Env') := ob (deref ρ x) fun d => match d with
  | .int i => some (some i, ρ)
  | _ => none
theorem e_oNo : oNo ρ = some (none, ρ) := rfl
theorem e_oS : oSome m (o :: ρ) = bdo (m (o :: ρ)) oso := rfl
theorem e_oso {i : Int} : oso (.v (.int i)) ρ = some (some i, ρ) := rfl
theorem e_cut1 {l : List D} : cutD (d :: l) (some 1) none = l := by
  unfold cutD HT.sIx
  simp
def rvo (d : D) (ρ : Env') : Option (D × Env') := match d with
  | .lst l => some (.lst l.reverse, ρ)
  | _ => none
theorem e_rev : mRevL m (o :: ρ) = bdo (m (o :: ρ)) fun x ρ => ob (deref ρ x) fun d => rvo d ρ := rfl
theorem e_rvo {l : List D} : rvo (.lst l) ρ = some (.lst l.reverse, ρ) := rfl
def cho (g : D → D → Option D) (n : EV) (y : A) (z : D) (ρ : Env') : Option (A × Env') := match z with
  | .bl true => bd n (fun w ρ3 => ob (deref ρ3 y) fun e => ob (deref ρ3 w) fun c => ob (g e c) fun z => some (.v z, ρ3)) ρ
  | .bl false => some (.v (.bl false), ρ)
  | _ => none
theorem e_ch {n2 : EV} : mCh f g m n n2 (o :: ρ) = bdo (m (o :: ρ)) fun x => bd n fun y ρ => ob (deref ρ x) fun d => ob (deref ρ y) fun e => ob (f d e) fun z => cho g n2 y z ρ := rfl
theorem e_cht {y : A} : cho g n y (.bl true) ρ = bd n (fun w ρ3 => ob (deref ρ3 y) fun e => ob (deref ρ3 w) fun c => ob (g e c) fun z => some (.v z, ρ3)) ρ := rfl
theorem e_chf {y : A} : cho g n y (.bl false) ρ = some (.v (.bl false), ρ) := rfl
/-! an own list, written at an index -/
def sxo (i : Nat) (kd w : D) (o : Option SV) (ρ : Env') : Option Res := match o, kd with
  | some (.o b (.lst l)), .int k => ob (ixN l.length k) fun j => some (.nx (ρ.set i (some (.o b (.lst (l.set j w))))))
  | _, _ => none
theorem obx {α β : Type} {r : Option α} {f g : α → Option β} (h : ∀ x, f x = g x) : ob r f = ob r g := by rw [funext h]
theorem e_six : sSetIx i m n (o :: ρ) = grd (owned (o :: ρ) i) (ob (n (o :: ρ)) fun p => ob (m p.2) fun q => ob (deref q.2 q.1) fun kd => ob (toV q.2 p.1) fun w => sxo i kd w.1 (gt w.2 i) w.2) := by
  unfold sSetIx
  congr 1
  refine obx fun p => obx fun q => obx fun kd => obx fun w => ?_
  unfold gt sxo
  rcases w.2[i]? with _ | _ | _ | ⟨_, d⟩ <;> first | rfl | (cases d <;> first | rfl | (cases kd <;> rfl))
theorem e_sxo {l : List D} {k : Int} : sxo i (.int k) d (some (.o b (.lst l))) ρ = ob (ixN l.length k) fun j => some (.nx (ρ.set i (some (.o b (.lst (l.set j d)))))) := rfl
theorem e_ixs {l : List D} {k : Int} : ixD (.scr l) (.int k) = atI l k := rfl
theorem e_lens {l : List D} : lenD [.scr l] = some (.int l.length) := rfl
theorem e_lsts {l : List D} : lstD [.scr l] = some (.lst l) := rfl
theorem e_lstl {l : List D} : lstD [.lst l] = some (.lst l) := rfl
theorem e_lstt {l : List D} : lstD [.tup l] = some (.lst l) := rfl
theorem e_pow {a b : Int} : powI (.int a) (.int b) = grd (powOk a b) (some (.int (a ^ b.toNat))) := rfl
theorem e_eqb {a b : Bool} : eqD (.bl a) (.bl b) = some (.bl (a == b)) := rfl
theorem e_neb {a b : Bool} : neD (.bl a) (.bl b) = some (.bl (a != b)) := rfl
theorem e_ntb {a b : Bool} : notB (.bl a) (.bl b) = some (.bl (a != b)) := by cases a <;> cases b <;> rfl
theorem e_isbb {a b : Bool} : isB (.bl a) (.bl b) = some (.bl (a == b)) := by cases a <;> cases b <;> rfl
theorem e_isn : isN d .non = some (.bl (isNon d)) := rfl
theorem e_non : notN d .non = some (.bl (!isNon d)) := rfl
theorem e_gt2 : gt [] i = none := rfl
theorem e_tint_non : isT .int (.non) = some false := rfl
theorem e_tint_bl {x : Bool} : isT .int (.bl x) = some true := rfl
theorem e_tint_int {x : Int} : isT .int (.int x) = some true := rfl
theorem e_tint_str {x : Str} : isT .int (.str x) = some false := rfl
theorem e_tint_tup {x : List D} : isT .int (.tup x) = some false := rfl
theorem e_tint_lst {x : List D} : isT .int (.lst x) = some false := rfl
theorem e_tint_scr {x : List D} : isT .int (.scr x) = some false := rfl
theorem e_tbool_non : isT .bool (.non) = some false := rfl
theorem e_tbool_bl {x : Bool} : isT .bool (.bl x) = some true := rfl
theorem e_tbool_int {x : Int} : isT .bool (.int x) = some false := rfl
theorem e_tbool_str {x : Str} : isT .bool (.str x) = some false := rfl
theorem e_tbool_tup {x : List D} : isT .bool (.tup x) = some false := rfl
theorem e_tbool_lst {x : List D} : isT .bool (.lst x) = some false := rfl
theorem e_tbool_scr {x : List D} : isT .bool (.scr x) = some false := rfl
theorem e_tstr_non : isT .str (.non) = some false := rfl
theorem e_tstr_bl {x : Bool} : isT .str (.bl x) = some false := rfl
theorem e_tstr_int {x : Int} : isT .str (.int x) = some false := rfl
theorem e_tstr_str {x : Str} : isT .str (.str x) = some true := rfl
theorem e_tstr_tup {x : List D} : isT .str (.tup x) = some false := rfl
theorem e_tstr_lst {x : List D} : isT .str (.lst x) = some false := rfl
theorem e_tstr_scr {x : List D} : isT .str (.scr x) = some false := rfl
theorem e_ttuple_non : isT .tuple (.non) = some false := rfl
theorem e_ttuple_bl {x : Bool} : isT .tuple (.bl x) = some false := rfl
theorem e_ttuple_int {x : Int} : isT .tuple (.int x) = some false := rfl
theorem e_ttuple_str {x : Str} : isT .tuple (.str x) = some false := rfl
theorem e_ttuple_tup {x : List D} : isT .tuple (.tup x) = some true := rfl
theorem e_ttuple_lst {x : List D} : isT .tuple (.lst x) = some false := rfl
theorem e_ttuple_scr {x : List D} : isT .tuple (.scr x) = some false := rfl
theorem e_tlist_non : isT .list (.non) = some false := rfl
theorem e_tlist_bl {x : Bool} : isT .list (.bl x) = some false := rfl
theorem e_tlist_int {x : Int} : isT .list (.int x) = some false := rfl
theorem e_tlist_str {x : Str} : isT .list (.str x) = some false := rfl
theorem e_tlist_tup {x : List D} : isT .list (.tup x) = some false := rfl
theorem e_tlist_lst {x : List D} : isT .list (.lst x) = some true := rfl
theorem e_tlist_scr {x : List D} : isT .list (.scr x) = some true := rfl
theorem e_lc {vs : List Nat} : mLc it gv c m vs (o :: ρ) = ob (it (o :: ρ)) fun p => grd (freeE p.2 vs && lineOk p.1.length) (ob (lcL gv c m vs p.1 p.2) fun z => some (.lst z.1, z.2)) := rfl
theorem e_yes : tYes' ρ = some (true, ρ) := rfl
/-! ints -/
theorem e_add {a b : Int} : addI (.int a) (.int b) = some (.int (a + b)) := rfl
theorem e_sub {a b : Int} : subI (.int a) (.int b) = some (.int (a - b)) := rfl
theorem e_mul {a b : Int} : mulI (.int a) (.int b) = grd (mulOk a b) (some (.int (a * b))) := rfl
theorem e_fdiv {a b : Int} : fdivI (.int a) (.int b) = grd (divOk b) (some (.int (a / b))) := rfl
theorem e_mod {a b : Int} : modI (.int a) (.int b) = grd (decide (0 < b)) (some (.int (a % b))) := rfl
theorem e_cmp {p : Int → Int → Bool} {a b : Int} : cmpI p (.int a) (.int b) = some (.bl (p a b)) := rfl
theorem e_neg {a : Int} : negI (.int a) = some (.int (-a)) := rfl
theorem e_ixt {l : List D} {k : Int} : ixD (.tup l) (.int k) = atI l k := rfl
theorem e_ixl {l : List D} {k : Int} : ixD (.lst l) (.int k) = atI l k := rfl
theorem e_at0 {l : List D} : atI (d :: l) 0 = some d := by
  unfold atI ixN
  have : (0 : Int) < ((d :: l).length : Int) := by simp only [List.length_cons]; omega
  simp only [Int.le_refl, if_true, this]
  rfl
theorem e_at1 {l : List D} : atI (d :: e :: l) 1 = some e := by
  unfold atI ixN
  have : (1 : Int) < ((d :: e :: l).length : Int) := by simp only [List.length_cons]; omega
  simp only [show (0 : Int) ≤ 1 by decide, if_true, this]
  rfl
theorem e_at2 {l : List D} {k : D} : atI (d :: e :: k :: l) 2 = some k := by
  unfold atI ixN
  have : (2 : Int) < ((d :: e :: k :: l).length : Int) := by simp only [List.length_cons]; omega
  simp only [show (0 : Int) ≤ 2 by decide, if_true, this]
  rfl
theorem e_at3 {l : List D} {k k2 : D} : atI (d :: e :: k :: k2 :: l) 3 = some k2 := by
  unfold atI ixN
  have : (3 : Int) < ((d :: e :: k :: k2 :: l).length : Int) := by simp only [List.length_cons]; omega
  simp only [show (0 : Int) ≤ 3 by decide, if_true, this]
  rfl
theorem e_eqi {a b : Int} : eqD (.int a) (.int b) = some (.bl (decide (a = b))) := by
  show some (D.bl (PyData.eqv (.int a) (.int b))) = _
  rw [PyData.eqv]
  by_cases h : a = b
  · subst h; simp
  · simp [h]
theorem e_nei {a b : Int} : neD (.int a) (.int b) = some (.bl (!decide (a = b))) := by
  show some (D.bl (!PyData.eqv (.int a) (.int b))) = _
  rw [PyData.eqv]
  by_cases h : a = b
  · subst h; simp
  · simp [h]
theorem e_abs {a : Int} : absD [.int a] = some (.int (a.natAbs : Int)) := by
  show some (D.int (if a < 0 then -a else a)) = _
  congr 2
  split <;> omega
theorem e_int {a : Int} : intD [.int a] = some (.int a) := rfl
theorem e_intb : intD [.bl b] = some (.int (if b then 1 else 0)) := rfl
theorem e_lenl {l : List D} : lenD [.lst l] = some (.int l.length) := rfl
theorem e_lent {l : List D} : lenD [.tup l] = some (.int l.length) := rfl
theorem e_tupl {l : List D} : tupD [.lst l] = some (.tup l) := rfl
theorem e_tupt {l : List D} : tupD [.tup l] = some (.tup l) := rfl
end
theorem while_step {c : TV} {b : SVt} {n : Nat} {ρ ρ1 ρ2 : Env'} (hc : c ρ = some (true, ρ1)) (hb : b ρ1 = some (.nx ρ2)) : whileN c b (n + 1) ρ = whileN c b n ρ2 := by simp only [whileN, hc, hb]
theorem while_end {c : TV} {b : SVt} {n : Nat} {ρ ρ1 : Env'} (hc : c ρ = some (false, ρ1)) : whileN c b (n + 1) ρ = some (.nx ρ1) := by simp only [whileN, hc]
theorem for_nil {g : GV} {b : SVt} {ρ : Env'} : forL g b [] ρ = some (.nx ρ) := rfl
theorem for_cons {g : GV} {b : SVt} {d : D} {ds : List D} {ρ ρ1 ρ2 : Env'} (hg : g d ρ = some ρ1) (hb : b ρ1 = some (.nx ρ2)) : forL g b (d :: ds) ρ = forL g b ds ρ2 := by simp only [forL, hg, hb]
theorem lc_nil {g : GV} {t : TV} {e : EV} {vs : List Nat} {ρ : Env'} : lcL g t e vs [] ρ = some ([], ρ) := rfl
/-- an invariant through a loop that is gone through -/
theorem for_inv {g : GV} {b : SVt} (I : Env' → Prop) : ∀ {ds : List D} {ρ : Env'}, I ρ → (∀ d ∈ ds, ∀ ρ, I ρ → ∃ ρ1 ρ2, g d ρ = some ρ1 ∧ b ρ1 = some (.nx ρ2) ∧ I ρ2) → ∃ ρ', forL g b ds ρ = some (.nx ρ') ∧ I ρ'
  | [], ρ, h, _ => ⟨ρ, rfl, h⟩
  | d :: ds, ρ, h, st => by
    obtain ⟨ρ1, ρ2, e1, e2, h2⟩ := st d List.mem_cons_self ρ h
    rw [for_cons e1 e2]
    exact for_inv I h2 fun d' hd => st d' (List.mem_cons_of_mem _ hd)
/-- less than so many bits -/
theorem mulOk_of {a b : Int} {m n : Nat} (ha : a.natAbs < 2 ^ m) (hb : b.natAbs < 2 ^ n) (h : m + n ≤ 900000) : mulOk a b = true := by
  have h2 : ∀ {x k : Nat}, x < 2 ^ k → x.log2 ≤ k := fun {x k} hx => by
    by_cases h0 : x = 0
    · subst h0; simp
    · exact Nat.le_of_lt ((Nat.log2_lt h0).mpr hx)
  have p := h2 ha
  have q := h2 hb
  exact decide_eq_true (by omega)
theorem divOk_of {b : Int} {n : Nat} (h0 : 0 < b) (hb : b.natAbs < 2 ^ n) (h : n ≤ 9000) (hn : 0 < n) : divOk b = true := by
  refine decide_eq_true ⟨h0, ?_⟩
  have := (Nat.log2_lt (show b.natAbs ≠ 0 by omega)).mpr hb
  omega
def fino : Option Res → Option D
  | some (.rt d _) => some d
  | some (.nx _) => some .non
  | _ => none
theorem fino_r {d : D} {ρ : Env'} : fino (some (.rt d ρ)) = some d := rfl
theorem fino_n {ρ : Env'} : fino (some (.nx ρ)) = some .non := rfl
section
variable {o : Option SV} {ρ : Env'} {d e : D} {m n : EV} {li : LI}
def rvT (d : D) (ρ : Env') : Option (A × Env') := match d with
  | .tup l => some (.v (.tup l.reverse), ρ)
  | _ => none
theorem e_revT : mRevT m (o :: ρ) = bdo (m (o :: ρ)) fun x ρ => ob (deref ρ x) fun d => rvT d ρ := rfl
theorem e_rvT {l : List D} : rvT (.tup l) ρ = some (.v (.tup l.reverse), ρ) := rfl
theorem e_lr : mLR li (o :: ρ) = ob (li (o :: ρ)) fun p => some (.lst p.1, p.2) := rfl
theorem e_tr : mTR li (o :: ρ) = ob (li (o :: ρ)) fun p => some (.v (.tup p.1), p.2) := rfl
theorem e_rg1 : mRg1 m (o :: ρ) = bdo (m (o :: ρ)) fun x ρ => ob (deref ρ x) fun d => rgo1 d ρ := rfl
theorem e_rg2 : mRg2 m n (o :: ρ) = bdo (m (o :: ρ)) fun x => bd n fun y ρ => ob (deref ρ x) fun d => ob (deref ρ y) fun e => rg2 d e ρ := rfl
theorem e_rgo1 {j : Int} : rgo1 (.int j) ρ = grd (rgOkB 0 j) (some (rngL 0 j.toNat, ρ)) := rfl
theorem e_rg2o {i j : Int} : rg2 (.int i) (.int j) ρ = grd (rgOkB i j) (some (rngL i (j - i).toNat, ρ)) := rfl
def eno (l : List D) (ρ : Env') : Option (List D × Env') := match l with
  | [.lst ds] => some (enumD 0 ds, ρ)
  | [.tup ds] => some (enumD 0 ds, ρ)
  | _ => none
theorem e_en : iEnum' m (o :: ρ) = ob (lCons m lNil (o :: ρ)) fun p => ob (toVL p.2 p.1) fun q => eno q.1 q.2 := rfl
theorem e_enl {l : List D} : eno [.lst l] ρ = some (enumD 0 l, ρ) := rfl
theorem e_ent {l : List D} : eno [.tup l] ρ = some (enumD 0 l, ρ) := rfl
def zpo (l : List D) (ρ : Env') : Option (List D × Env') := match l with
  | [.lst ds, .lst es] => some (zipD ds es, ρ)
  | [.tup ds, .tup es] => some (zipD ds es, ρ)
  | _ => none
theorem e_zp : iZip' m n (o :: ρ) = ob (lCons m (lCons n lNil) (o :: ρ)) fun p => ob (toVL p.2 p.1) fun q => zpo q.1 q.2 := rfl
theorem e_zpl {l k : List D} : zpo [.lst l, .lst k] ρ = some (zipD l k, ρ) := rfl
theorem e_zpt {l k : List D} : zpo [.tup l, .tup k] ρ = some (zipD l k, ρ) := rfl
theorem e_isi2 {t1 t2 : Ty} : mIsi2 t1 t2 m (o :: ρ) = bdo (m (o :: ρ)) fun x ρ => ob (deref ρ x) fun d => ob (isT t1 d) fun b1 => ob (isT t2 d) fun b2 => some (.v (.bl (b1 || b2)), ρ) := rfl
theorem e_catT {l k : List D} : catT (.tup l) (.tup k) = grd (lineOk (l.length + k.length)) (some (.tup (l ++ k))) := rfl
theorem e_catL {l k : List D} : catL (.lst l) (.lst k) = grd (lineOk (l.length + k.length)) (some (.lst (l ++ k))) := rfl
def ago (i : Nat) (f : Int → Int → Int) (m : EV) (a : Option SV) (ρ : Env') : Option Res := match a with
  | some (.v (.int a)) => ob (m ρ) fun p => ob (deref p.2 p.1) fun d => match d with
    | .int c => grd (canSet p.2 i) (some (.nx (p.2.set i (some (.v (.int (f a c)))))))
    | _ => none
  | _ => none
theorem e_aug {i : Nat} {f : Int → Int → Int} : sAug i f m (o :: ρ) = ago i f m (gt (o :: ρ) i) (o :: ρ) := by
  unfold sAug gt ago
  rcases (o :: ρ)[i]? with _ | _ | d | _ <;> first | rfl | (cases d <;> rfl)
def agn (i : Nat) (f : Int → Int → Int) (a : Int) (d : D) (ρ : Env') : Option Res := match d with
  | .int c => grd (canSet ρ i) (some (.nx (ρ.set i (some (.v (.int (f a c)))))))
  | _ => none
theorem e_ago {i : Nat} {f : Int → Int → Int} {a : Int} : ago i f m (some (.v (.int a))) ρ = ob (m ρ) fun p => ob (deref p.2 p.1) fun d => agn i f a d p.2 := rfl
theorem e_agn {i : Nat} {f : Int → Int → Int} {a c : Int} : agn i f a (.int c) ρ = grd (canSet ρ i) (some (.nx (ρ.set i (some (.v (.int (f a c))))))) := rfl
def meo (i : Nat) (f : List D → D → Option (D × List D)) (w : D) (a : Option SV) (ρ : Env') : Option (A × Env') := match a with
  | some (.o b (.lst l)) => ob (f l w) fun z => some (.v z.1, ρ.set i (some (.o b (.lst z.2))))
  | _ => none
theorem e_meth1 {i : Nat} {f : List D → D → Option (D × List D)} : mMeth1 i f m (o :: ρ) = grd (isOwnL (o :: ρ) i) (ob (m (o :: ρ)) fun p => ob (toV p.2 p.1) fun w => meo i f w.1 (gt w.2 i) w.2) := by
  unfold mMeth1
  congr 1
  refine obx fun p => obx fun w => ?_
  unfold gt meo
  rcases w.2[i]? with _ | _ | _ | ⟨_, d⟩ <;> first | rfl | (cases d <;> rfl)
theorem e_meo {i : Nat} {f : List D → D → Option (D × List D)} {w : D} {b : Bool} {l : List D} : meo i f w (some (.o b (.lst l))) ρ = ob (f l w) fun z => some (.v z.1, ρ.set i (some (.o b (.lst z.2)))) := rfl
def me0 (i : Nat) (f : List D → Option (D × List D)) (a : Option SV) (ρ : Env') : Option (A × Env') := match a with
  | some (.o b (.lst l)) => ob (f l) fun z => some (.v z.1, ρ.set i (some (.o b (.lst z.2))))
  | _ => none
theorem e_apd {l : List D} : appendD l d = grd (decide (l.length < 16777216)) (some (.non, l ++ [d])) := rfl
end
def outo : Option Res → Option (D × D)
  | some (.rt r ρ) => outIO r ρ
  | some (.nx ρ) => outIO .non ρ
  | _ => none
theorem outo_r {r d : D} {ρ : Env'} : outo (some (.rt r (some (.o true d) :: ρ))) = some (r, d) := rfl
theorem outo_n {d : D} {ρ : Env'} : outo (some (.nx (some (.o true d) :: ρ))) = some (.non, d) := rfl
theorem den_of {n : Nat} {m : SVt} {ds : List D} : denOf n m ds = fino (m (env0 n ds)) := rfl
theorem denIO_of {n : Nat} {m : SVt} {ds : List D} {d0 : D} : denIO n m d0 ds = outo (m (envIO n d0 ds)) := rfl
def fco (g : GV) (s : SVt) (ds : List D) (r : Option Res) : Option Res := match r with
  | some (.nx ρ) => forL g s ds ρ
  | some (.ct ρ) => forL g s ds ρ
  | some (.bk ρ) => some (.nx ρ)
  | some (.rt d ρ) => some (.rt d ρ)
  | none => none
theorem e_forc {g : GV} {s : SVt} {d : D} {ds : List D} {ρ : Env'} : forL g s (d :: ds) ρ = ob (g d ρ) fun ρ1 => fco g s ds (s ρ1) := by
  rw [forL]
  cases g d ρ with
  | none => rfl
  | some ρ1 =>
    show (match s ρ1 with | some (.nx ρ2) => forL g s ds ρ2 | some (.ct ρ2) => forL g s ds ρ2 | some (.bk ρ2) => some (.nx ρ2) | some (.rt d ρ2) => some (.rt d ρ2) | none => none) = fco g s ds (s ρ1)
    unfold fco
    rcases s ρ1 with _ | _ | _ | _ | _ <;> rfl
theorem e_fcn {g : GV} {s : SVt} {ds : List D} {ρ : Env'} : fco g s ds (some (.nx ρ)) = forL g s ds ρ := rfl
theorem e_fcr {g : GV} {s : SVt} {ds : List D} {ρ : Env'} {d : D} : fco g s ds (some (.rt d ρ)) = some (.rt d ρ) := rfl
theorem e_fcc {g : GV} {s : SVt} {ds : List D} {ρ : Env'} : fco g s ds (some (.ct ρ)) = forL g s ds ρ := rfl
theorem e_fcb {g : GV} {s : SVt} {ds : List D} {ρ : Env'} : fco g s ds (some (.bk ρ)) = some (.nx ρ) := rfl
theorem e_forn {g : GV} {s : SVt} {ρ : Env'} : forL g s [] ρ = some (.nx ρ) := rfl
def fino2 : Option (D × Env') → Option D
  | some (d, _) => some d
  | none => none
theorem fino2_r {d : D} {ρ : Env'} : fino2 (some (d, ρ)) = some d := rfl
theorem lo1 : lineOk (0 + 1) = true := rfl
theorem lo2 : lineOk (0 + 1 + 1) = true := rfl
theorem lo3 : lineOk (0 + 1 + 1 + 1) = true := rfl
theorem lo4 : lineOk (0 + 1 + 1 + 1 + 1) = true := rfl
theorem lo5 : lineOk (0 + 1 + 1 + 1 + 1 + 1) = true := rfl
section
variable {α : Type} {ρ : Env'} {gv : GV} {c : TV} {m : EV} {vs : List Nat}
/-- comprehensions over what is written in a list of another kind -/
theorem lc_mapE (em f : α → D) : ∀ {l : List α}, (∀ y ∈ l, lcT gv c m vs (em y) ρ = some (some (f y), ρ)) → lcL gv c m vs (l.map em) ρ = some (l.map f, ρ)
  | [], _ => rfl
  | y :: l, h => by
    rw [List.map_cons, lcL_cons (h y List.mem_cons_self), lc_mapE em f fun x hx => h x (List.mem_cons_of_mem _ hx)]
    rfl
theorem lc_filtE (em f : α → D) (p : α → Bool) : ∀ {l : List α}, (∀ y ∈ l, lcT gv c m vs (em y) ρ = some (if p y = true then some (f y) else none, ρ)) → lcL gv c m vs (l.map em) ρ = some ((l.filter p).map f, ρ)
  | [], _ => rfl
  | y :: l, h => by
    rw [List.map_cons, lcL_cons (h y List.mem_cons_self), lc_filtE em f p fun x hx => h x (List.mem_cons_of_mem _ hx)]
    cases e : p y
    · rw [List.filter_cons_of_neg (by rw [e]; exact Bool.false_ne_true)]; rfl
    · rw [List.filter_cons_of_pos e]; rfl
end
section
variable {gv : GV} {c : TV} {mk mv : EV} {vs : List Nat} {ρ : Env'} {o : Option SV} {d : D} {it : LI} {m n : EV}
def dct (mk mv : EV) (ρ : Env') (vs : List Nat) (b : Bool) (ρ1 : Env') : Option (Option (Key × D) × Env') := match b with
  | true => ob (mk ρ1) fun q => ob (mv q.2) fun r => ob (deref r.2 q.1) fun kd => ob (keyOf kd) fun k => ob (toV r.2 r.1) fun y => some (some (k, y.1), restE ρ y.2 vs)
  | false => some (none, restE ρ ρ1 vs)
/-- one turn of a dict comprehension -/
def dcT (g : GV) (t : TV) (mk mv : EV) (vs : List Nat) (d : D) (ρ : Env') : Option (Option (Key × D) × Env') := ob (g d (wipeE ρ vs)) fun ρ1 => ob (t ρ1) fun p => dct mk mv ρ vs p.1 p.2
theorem e_dcT : dcT gv c mk mv vs d ρ = ob (gv d (wipeE ρ vs)) fun ρ1 => ob (c ρ1) fun p => dct mk mv ρ vs p.1 p.2 := rfl
theorem e_dctt {ρ1 : Env'} : dct mk mv ρ vs true ρ1 = ob (mk ρ1) fun q => ob (mv q.2) fun r => ob (deref r.2 q.1) fun kd => ob (keyOf kd) fun k => ob (toV r.2 r.1) fun y => some (some (k, y.1), restE ρ y.2 vs) := rfl
theorem e_dctf {ρ1 : Env'} : dct mk mv ρ vs false ρ1 = some (none, restE ρ ρ1 vs) := rfl
def putO (acc : List (Key × D)) (x : Option (Key × D)) : List (Key × D) := match x with
  | some (k, v) => putD acc k v
  | none => acc
theorem dcL_cons {ds : List D} {acc : List (Key × D)} {x : Option (Key × D)} {ρ1 : Env'} (h : dcT gv c mk mv vs d ρ = some (x, ρ1)) : dcL gv c mk mv vs (d :: ds) acc ρ = dcL gv c mk mv vs ds (putO acc x) ρ1 := by
  unfold dcT at h
  rw [dcL]
  cases e1 : gv d (wipeE ρ vs) with
  | none => rw [e1] at h; cases h
  | some ρ2 =>
    rw [e1] at h
    simp only [e_ob] at h ⊢
    cases e2 : c ρ2 with
    | none => rw [e2] at h; cases h
    | some p =>
      obtain ⟨b, ρ3⟩ := p
      rw [e2] at h
      simp only [e_ob] at h ⊢
      cases b with
      | false =>
        simp only [e_dctf, Option.some.injEq, Prod.mk.injEq] at h
        obtain ⟨rfl, rfl⟩ := h
        rfl
      | true =>
        simp only [e_dctt] at h
        cases e3 : mk ρ3 with
        | none => rw [e3] at h; cases h
        | some q =>
          rw [e3] at h
          simp only [e_ob] at h ⊢
          cases e4 : mv q.2 with
          | none => rw [e4] at h; cases h
          | some r =>
            rw [e4] at h
            simp only [e_ob] at h ⊢
            cases e5 : deref r.2 q.1 with
            | none => rw [e5] at h; cases h
            | some kd =>
              rw [e5] at h
              simp only [e_ob] at h ⊢
              cases e6 : keyOf kd with
              | none => rw [e6] at h; cases h
              | some k =>
                rw [e6] at h
                simp only [e_ob] at h ⊢
                cases e7 : toV r.2 r.1 with
                | none => rw [e7] at h; cases h
                | some y =>
                  rw [e7] at h
                  simp only [e_ob, Option.some.injEq, Prod.mk.injEq] at h ⊢
                  obtain ⟨rfl, rfl⟩ := h
                  rfl
theorem e_dc : mDc it gv c mk mv vs (o :: ρ) = ob (it (o :: ρ)) fun p => grd (freeE p.2 vs && lineOk p.1.length) (ob (dcL gv c mk mv vs p.1 [] p.2) fun z => some (.dk z.1, z.2)) := rfl
theorem e_koi {i : Int} : keyOf (.int i) = some (.inl i) := rfl
theorem e_kos {x : Str} : keyOf (.str x) = some (.inr x) := rfl
theorem e_dg {kv : List (Key × D)} : dgetD (.dk kv) d = ob (keyOf d) fun k => valD kv k := rfl
end
theorem e_shl {a b : Int} : shlI (.int a) (.int b) = grd (powOk a b) (some (.int (a * 2 ^ b.toNat))) := rfl
def lsg (o : Option SV) (kd : D) : Option Int := lstAt (some o) kd
def aug2 (i : Nat) (f : Int → Int → Int) (kd : D) (x : Int) (e : D) (o : Option SV) (ρ : Env') : Option Res := augTo i f kd x e (some o) ρ
theorem e_augix {o : Option SV} {ρ : Env'} {i : Nat} {f : Int → Int → Int} {mk m : EV} : sAugIx i f mk m (o :: ρ) = grd (owned (o :: ρ) i) (ob (mk (o :: ρ)) fun q => ob (deref q.2 q.1) fun kd => ob (lsg (gt q.2 i) kd) fun x => ob (m q.2) fun p => ob (deref p.2 p.1) fun e => aug2 i f kd x e (gt p.2 i) p.2) := by
  unfold sAugIx
  congr 1
  refine obx fun q => obx fun kd => ?_
  have h : ∀ (τ : Env'), lstAt τ[i]? kd = lsg (gt τ i) kd := fun τ => by
    unfold lsg gt
    rcases τ[i]? with _ | _ <;> rfl
  rw [h]
  refine obx fun x => obx fun p => obx fun e => ?_
  unfold aug2 gt
  rcases p.2[i]? with _ | _ <;> rfl
theorem lsg_of {b : Bool} {l : List D} {k x : Int} (h0 : 0 ≤ k) (h : l[k.toNat]? = some (.int x)) : lsg (some (.o b (.lst l))) (.int k) = some x := by
  unfold lsg lstAt
  simp only [decide_eq_true h0, h]
theorem e_aug2 {i : Nat} {f : Int → Int → Int} {k x y : Int} {b : Bool} {l : List D} {ρ : Env'} : aug2 i f (.int k) x (.int y) (some (.o b (.lst l))) ρ = ob (ixN l.length k) fun j => some (.nx (ρ.set i (some (.o b (.lst (l.set j (.int (f x y)))))))) := rfl
def slo2 (d : D) (lo hi : Option Int) (ρ : Env') : Option (A × Env') := match d with
  | .lst l => some (.v (.lst (cutD l lo hi)), ρ)
  | .tup l => some (.v (.tup (cutD l lo hi)), ρ)
  | _ => none
theorem e_sl {o : Option SV} {ρ : Env'} {m : EV} {ml mh : OV} : mSl m ml mh (o :: ρ) = bdo (m (o :: ρ)) fun x => bd ml fun lo => bd mh fun hi ρ => ob (deref ρ x) fun d => slo2 d lo hi ρ := rfl
theorem e_sl2l {l : List D} {lo hi : Option Int} {ρ : Env'} : slo2 (.lst l) lo hi ρ = some (.v (.lst (cutD l lo hi)), ρ) := rfl
theorem e_sl2t {l : List D} {lo hi : Option Int} {ρ : Env'} : slo2 (.tup l) lo hi ρ = some (.v (.tup (cutD l lo hi)), ρ) := rfl
theorem e_repT {a : List D} {k : Int} : repT (.tup a) (.int k) = grd (decide (-1000 ≤ k ∧ k ≤ 1000 ∧ a.length ≤ 1000)) (some (.tup (List.replicate k.toNat a).flatten)) := rfl
theorem e_repL {a : List D} {k : Int} : repL (.lst a) (.int k) = grd (decide (-(2 ^ 63) ≤ k ∧ k < 2 ^ 63) && lineOk (a.length * k.toNat)) (some (.lst (List.replicate k.toNat a).flatten)) := rfl
theorem flat_one {n : Nat} {d : D} : (List.replicate n [d]).flatten = List.replicate n d := by
  induction n with
  | zero => rfl
  | succ n ih => rw [List.replicate_succ, List.flatten_cons, ih]; rfl
end DL

set_option Elab.async false
set_option linter.all false
set_option maxRecDepth 100000
namespace DL
open PySem PySem.Spec L2
set_option autoImplicit false
/-! ### evaluation, more rows: dicts, own slots -/
/-- a slot that owns an object or holds nothing -/
def oo (x : Option D) : Option SV := match x with
  | some d => some (.o false d)
  | none => none
section
variable {o : Option SV} {ρ : Env'} {i j : Nat} {d e z : D} {b : Bool} {gv : GV} {s : SVt} {m n l : EV} {mf nf : FV} {kv : List (Key × D)} {key : Key}
theorem e_can4 {y : Option D} : canSet (oo y :: ρ) 0 = true := by cases y <;> rfl
theorem e_gtn : gt (none :: ρ) 0 = none := rfl
def fio (g : GV) (b : SVt) (d : D) (ρ : Env') : Option Res := match d with
  | .dk kv => forL g b (itemsD kv) ρ
  | _ => none
theorem e_fori : sForI i gv s (o :: ρ) = ob (toV (o :: ρ) (.s i)) fun q => fio gv s q.1 q.2 := rfl
theorem e_fio : fio gv s (.dk kv) ρ = forL gv s (itemsD kv) ρ := rfl
def sdco (i : Nat) (key : Key) (w : D) (o : Option SV) (ρ : Env') : Option Res := match o with
  | some (.o b (.dk kv)) => grd (decide (kv.length < 16777216)) (some (.nx (ρ.set i (some (.o b (.dk (putD kv key w)))))))
  | _ => none
theorem e_setdc : sSetDc i m n (o :: ρ) = grd (owned (o :: ρ) i) (ob (n (o :: ρ)) fun p => ob (m p.2) fun q => ob (deref q.2 q.1) fun kd => ob (keyOf kd) fun key => ob (toV q.2 p.1) fun w => sdco i key w.1 (gt w.2 i) w.2) := by
  unfold sSetDc
  congr 1
  refine obx fun p => obx fun q => obx fun kd => obx fun key => obx fun w => ?_
  unfold gt sdco
  rcases w.2[i]? with _ | _ | _ | ⟨_, d⟩ <;> first | rfl | (cases d <;> rfl)
theorem e_sdco {w : D} : sdco i key w (some (.o b (.dk kv))) ρ = grd (decide (kv.length < 16777216)) (some (.nx (ρ.set i (some (.o b (.dk (putD kv key w))))))) := rfl
theorem e_get2 : mGet2 m n l (o :: ρ) = ob (m (o :: ρ)) fun p => ob (deref p.2 p.1) fun d0 => grd (isDk d0) (ob (n p.2) fun q => ob (l q.2) fun r => ob (deref r.2 p.1) fun d => ob (deref r.2 q.1) fun kd => ob (keyOf kd) fun key => getO d key r.1 r.2) := rfl
theorem e_isdk : isDk (.dk kv) = true := rfl
def gto (x : Option D) (z : A) : A := match x with
  | some v => .v v
  | none => z
theorem e_geto {z : A} : getO (.dk kv) key z ρ = some (gto (valD kv key) z, ρ) := by
  show (match valD kv key with
    | some v => some (A.v v, ρ)
    | none => some (z, ρ)) = _
  unfold gto
  cases valD kv key <;> rfl
theorem e_gtos {z : A} : gto (some d) z = .v d := rfl
theorem e_gton {z : A} : gto none z = z := rfl
theorem e_newd : mNewD ρ = some (.dk [], ρ) := rfl
theorem e_disp1 : mDisp1 m n (o :: ρ) = ob (m (o :: ρ)) fun q => ob (n q.2) fun r => ob (deref r.2 q.1) fun kd => ob (keyOf kd) fun key => ob (toV r.2 r.1) fun y => some (.dk [(key, y.1)], y.2) := rfl
theorem e_parok : parOk ρ i j = (canSet ρ i && canSet ρ j && !(i == j)) := by rw [← dne]; rfl
theorem e_parov : sParOV i j mf n (o :: ρ) = ob (mf (o :: ρ)) fun p => ob (n p.2) fun q => ob (toV q.2 q.1) fun y => grd (parOk y.2 i j) (some (.nx ((y.2.set i (some (.o false p.1))).set j (some (.v y.1))))) := rfl
theorem e_parvo : sParVO i j n mf (o :: ρ) = ob (n (o :: ρ)) fun q => ob (mf q.2) fun p => ob (toV p.2 q.1) fun y => grd (parOk y.2 i j) (some (.nx ((y.2.set j (some (.o false p.1))).set i (some (.v y.1))))) := rfl
theorem e_paroo : sParOO i j mf nf (o :: ρ) = ob (mf (o :: ρ)) fun p => ob (nf p.2) fun q => grd (parOk q.2 i j) (some (.nx ((q.2.set j (some (.o false q.1))).set i (some (.o false p.1))))) := rfl
theorem e_indc : inDc d (.dk kv) = ob (keyOf d) fun k => some (.bl (valD kv k).isSome) := rfl
theorem e_nindc : notInDc d (.dk kv) = ob (keyOf d) fun k => some (.bl (!(valD kv k).isSome)) := rfl
theorem e_ch3 {f g h : D → D → Option D} {n2 n3 : EV} : mCh3 f g h m n n2 n3 (o :: ρ) = bdo (m (o :: ρ)) fun x => bd n fun y ρ => ob (deref ρ x) fun d => ob (deref ρ y) fun e => ob (f d e) fun z =>
  ch3 (bd n2 fun w ρ => ob (deref ρ y) fun e => ob (deref ρ w) fun c => ob (g e c) fun z => ch3 (bd n3 fun u ρ => ob (deref ρ w) fun c => ob (deref ρ u) fun b => ob (h c b) fun z => some (.v z, ρ)) z ρ) z ρ := rfl
theorem e_c3t {k : Env' → Option (A × Env')} : ch3 k (.bl true) ρ = k ρ := rfl
theorem e_c3f {k : Env' → Option (A × Env')} : ch3 k (.bl false) ρ = some (.v (.bl false), ρ) := rfl
theorem e_max2 {a c : Int} : max2D [.int a, .int c] = some (.int (if c > a then c else a)) := rfl
theorem e_min2 {a c : Int} : min2D [.int a, .int c] = some (.int (if c < a then c else a)) := rfl
theorem e_meth0 {f : List D → Option (D × List D)} : mMeth0 i f (o :: ρ) = me0 i f (gt (o :: ρ) i) (o :: ρ) := by
  unfold mMeth0 gt me0
  rcases (o :: ρ)[i]? with _ | _ | _ | ⟨_, d⟩ <;> first | rfl | (cases d <;> rfl)
theorem e_me0 {f : List D → Option (D × List D)} {l : List D} : me0 i f (some (.o b (.lst l))) ρ = ob (f l) fun z => some (.v z.1, ρ.set i (some (.o b (.lst z.2)))) := rfl
end
section
variable {o : Option SV} {ρ : Env'} {i j : Nat} {d e z : D} {b : Bool} {gv g1 : GV} {c t1 : TV} {m n : EV} {it it1 : LI}
theorem e_rgd2 {i j : Int} : rngD2 [.int i, .int j] = grd (rgOk2 i j) (some (.rg i j)) := rfl
def rgvo (d : D) (ρ : Env') : Option (List D × Env') := match d with
  | .rg lo hi => grd (rgOk2 lo hi) (some (rngL lo (hi - lo).toNat, ρ))
  | _ => none
theorem e_rgv : iRgV m (o :: ρ) = ob (m (o :: ρ)) fun p => ob (toV p.2 p.1) fun q => rgvo q.1 q.2 := rfl
theorem e_rgvo {lo hi : Int} : rgvo (.rg lo hi) ρ = grd (rgOk2 lo hi) (some (rngL lo (hi - lo).toNat, ρ)) := rfl
def sub2 (i : Nat) (kd d : D) (o : Option SV) (ρ : Env') : Option Env' := subTo i kd d (some o) ρ
theorem e_gsub : gSub' i m d (o :: ρ) = grd (owned (o :: ρ) i) (ob (m (o :: ρ)) fun q => ob (deref q.2 q.1) fun kd => sub2 i kd d (gt q.2 i) q.2) := by
  unfold gSub'
  congr 1
  refine obx fun q => obx fun kd => ?_
  unfold sub2 gt
  rcases q.2[i]? with _ | _ <;> rfl
theorem e_sub2 {k : Int} {l : List D} : sub2 i (.int k) d (some (.o b (.lst l))) ρ = ob (ixN l.length k) fun j => some (ρ.set i (some (.o b (.lst (l.set j d))))) := rfl
theorem e_index : mIndex m n (o :: ρ) = bdo (m (o :: ρ)) fun x ρ => ob (deref ρ x) fun d0 => grd (isLst d0) (bd n (fun y ρ => ob (deref ρ x) fun d => ob (deref ρ y) fun e => ob (indexD d e) fun z => some (.v z, ρ)) ρ) := rfl
theorem e_isl {l : List D} : isLst (.lst l) = true := rfl
theorem e_lc2 {vs vs1 : List Nat} : mLc2 it gv c it1 g1 t1 m vs vs1 (o :: ρ) = ob (it (o :: ρ)) fun p => grd (freeE p.2 vs) (ob (lc2L gv c it1 g1 t1 m vs vs1 p.1 p.2) fun z => grd (lineOk z.1.length) (some (.lst z.1, z.2))) := rfl
/-- a turn of the outer walk, the inner one's result told -/
theorem lc2_cons {vs vs1 : List Nat} {ds its ys : List D} {ρ1 ρ2 ρ3 ρ4 : Env'} (h1 : gv d (wipeE ρ vs) = some ρ1) (h2 : c ρ1 = some (true, ρ2)) (h3 : it1 ρ2 = some (its, ρ3)) (h4 : freeE ρ3 vs1 = true) (h5 : lcL g1 t1 m vs1 its ρ3 = some (ys, ρ4)) :
    lc2L gv c it1 g1 t1 m vs vs1 (d :: ds) ρ = ob (lc2L gv c it1 g1 t1 m vs vs1 ds (restE ρ ρ4 vs)) fun z => some (ys ++ z.1, z.2) := by
  simp only [lc2L, h1, h2, h3, h4, h5, e_ob, e_grt]
theorem lc2_map {α : Type} {vs vs1 : List Nat} (em : α → D) (f : α → List D) : ∀ {l : List α}, (∀ y ∈ l, ∃ ρ1 ρ2 ρ3 ρ4 its, gv (em y) (wipeE ρ vs) = some ρ1 ∧ c ρ1 = some (true, ρ2) ∧ it1 ρ2 = some (its, ρ3) ∧ freeE ρ3 vs1 = true ∧ lcL g1 t1 m vs1 its ρ3 = some (f y, ρ4) ∧ restE ρ ρ4 vs = ρ) → lc2L gv c it1 g1 t1 m vs vs1 (l.map em) ρ = some (l.flatMap f, ρ)
  | [], _ => rfl
  | y :: l, h => by
    obtain ⟨ρ1, ρ2, ρ3, ρ4, its, h1, h2, h3, h4, h5, h6⟩ := h y List.mem_cons_self
    rw [List.map_cons, lc2_cons h1 h2 h3 h4 h5, h6, lc2_map em f fun x hx => h x (List.mem_cons_of_mem _ hx)]
    rfl
end
theorem items_nil : itemsD [] = [] := rfl
theorem items_cons {k : Key} {d : D} {kv : List (Key × D)} : itemsD ((k, d) :: kv) = .tup [keyD k, d] :: itemsD kv := rfl
theorem keyD_i {i : Int} : keyD (.inl i) = .int i := rfl
/-- a dict by its keys -/
theorem valD_app_in {kv kw : List (Key × D)} {k : Key} (h : k ∈ kv.map Prod.fst) : valD (kv ++ kw) k = valD kv k := by
  unfold valD
  rw [List.find?_append]
  obtain ⟨p, hp, e⟩ := List.mem_map.mp h
  cases q : kv.find? fun e => decide (e.1 = k) with
  | none => exact absurd (List.find?_eq_none.mp q p hp) (by simp [e])
  | some x => rfl
theorem valD_out {kv : List (Key × D)} {k : Key} (h : k ∉ kv.map Prod.fst) : valD kv k = none := by
  unfold valD
  rw [List.find?_eq_none.mpr]
  · rfl
  · intro p hp
    have : p.1 ≠ k := fun e => h (by rw [← e]; exact List.mem_map_of_mem hp)
    simp [this]
theorem valD_self {k : Key} {d : D} {kv : List (Key × D)} : valD ((k, d) :: kv) k = some d := by
  unfold valD
  rw [List.find?_cons_of_pos (by simp)]
  rfl
theorem valD_ne {k k2 : Key} {d : D} {kv : List (Key × D)} (h : k2 ≠ k) : valD ((k2, d) :: kv) k = valD kv k := by
  unfold valD
  rw [List.find?_cons_of_neg (by simp [h])]
theorem putD_out {kv : List (Key × D)} {k : Key} {d : D} (h : k ∉ kv.map Prod.fst) : putD kv k d = kv ++ [(k, d)] := by
  unfold putD
  rw [if_neg]
  intro q
  obtain ⟨p, hp, e⟩ := List.any_eq_true.mp q
  exact h (by rw [← of_decide_eq_true e]; exact List.mem_map_of_mem hp)
theorem putD_head {k : Key} {d e : D} {kv : List (Key × D)} (h : k ∉ kv.map Prod.fst) : putD ((k, d) :: kv) k e = (k, e) :: kv := by
  unfold putD
  rw [if_pos (by simp), List.map_cons, if_pos rfl]
  congr 1
  conv => rhs; rw [← List.map_id kv]
  refine List.map_congr_left fun p hp => ?_
  rw [if_neg]
  · rfl
  · intro e
    exact h (by rw [← e]; exact List.mem_map_of_mem hp)
/-! lists of whole numbers, of truths -/
theorem pl_ints : ∀ l : List Int, toPL (l.map D.int) = some (l.map PyData.int)
  | [] => rfl
  | x :: l => by rw [List.map_cons, toPL, pl_ints l]; rfl
theorem lay_ints : ∀ l : List Int, PyData.canLayAll0 (l.map PyData.int) = true
  | [] => by simp [PyData.canLayAll0]
  | x :: l => by simp [PyData.canLayAll0, PyData.canLay0, lay_ints l]
theorem dep_ints : ∀ l : List Int, PyData.depthAll (l.map PyData.int) ≤ 1
  | [] => by simp [PyData.depthAll]
  | x :: l => by
    have := dep_ints l
    simp [PyData.depthAll, PyData.depth]
    omega
theorem shl_ints (l : List Int) : shp (.list (l.map PyData.int)) = true ∧ shp (.tuple (l.map PyData.int)) = true := by
  have d := dep_ints l
  constructor <;> (unfold shp SeqAt.shaped; simp [PyData.canLay0, PyData.depth, lay_ints l]; omega)
theorem eqv_int {a b : Int} : PyData.eqv (.int a) (.int b) = decide (a = b) := by
  rw [PyData.eqv]
  by_cases h : a = b
  · subst h; simp
  · simp [h]
theorem eqv_intsD : ∀ l k : List Int, PyData.eqvAll (l.map PyData.int) (k.map PyData.int) = decide (l = k)
  | [], [] => by simp [PyData.eqvAll]
  | [], x :: k => by simp [PyData.eqvAll]
  | x :: l, [] => by simp [PyData.eqvAll]
  | x :: l, y :: k => by
    rw [List.map_cons, List.map_cons, PyData.eqvAll, eqv_int, eqv_intsD l k, ← Bool.decide_and]
    exact decide_eq_decide.mpr (by simp)
theorem eq_tup_ints {l k : List Int} : eqD (.tup (l.map D.int)) (.tup (k.map D.int)) = some (.bl (decide (l = k))) := by
  simp only [eqD, toP, pl_ints, ob, (shl_ints _).2, Bool.and_self, e_grt]
  rw [PyData.eqv, eqv_intsD]
theorem ne_tup_ints {l k : List Int} : neD (.tup (l.map D.int)) (.tup (k.map D.int)) = some (.bl (!decide (l = k))) := by
  simp only [neD, toP, pl_ints, ob, (shl_ints _).2, Bool.and_self, e_grt]
  rw [PyData.eqv, eqv_intsD]
theorem eq_lst_ints {l k : List Int} : eqD (.lst (l.map D.int)) (.lst (k.map D.int)) = some (.bl (decide (l = k))) := by
  simp only [eqD, toP, pl_ints, ob, (shl_ints _).1, Bool.and_self, e_grt]
  rw [PyData.eqv, eqv_intsD]
theorem ne_lst_ints {l k : List Int} : neD (.lst (l.map D.int)) (.lst (k.map D.int)) = some (.bl (!decide (l = k))) := by
  simp only [neD, toP, pl_ints, ob, (shl_ints _).1, Bool.and_self, e_grt]
  rw [PyData.eqv, eqv_intsD]
theorem any_ints {a : Int} : ∀ l : List Int, ((l.map PyData.int).any fun z => PyData.eqv z (.int a)) = decide (a ∈ l)
  | [] => by simp
  | x :: l => by
    rw [List.map_cons, List.any_cons, any_ints l, eqv_int, ← Bool.decide_or]
    exact decide_eq_decide.mpr (by rw [List.mem_cons, eq_comm])
theorem shp_int {a : Int} : shp (.int a) = true := by unfold shp SeqAt.shaped; simp [PyData.canLay0, PyData.depth]
theorem in_tup_ints {a : Int} {l : List Int} : inT (.int a) (.tup (l.map D.int)) = some (.bl (decide (a ∈ l))) := by
  simp only [inT, toP, pl_ints, ob, (shl_ints _).2, shp_int, Bool.and_self, e_grt, any_ints]
theorem in_lst_ints {a : Int} {l : List Int} : inL (.int a) (.lst (l.map D.int)) = some (.bl (decide (a ∈ l))) := by
  simp only [inL, toP, pl_ints, ob, (shl_ints _).1, shp_int, Bool.and_self, e_grt, any_ints]
theorem nin_tup_ints {a : Int} {l : List Int} : notInT (.int a) (.tup (l.map D.int)) = some (.bl (!decide (a ∈ l))) := by
  simp only [notInT, toP, pl_ints, ob, (shl_ints _).2, shp_int, Bool.and_self, e_grt, any_ints]
theorem nin_lst_ints {a : Int} {l : List Int} : notInL (.int a) (.lst (l.map D.int)) = some (.bl (!decide (a ∈ l))) := by
  simp only [notInL, toP, pl_ints, ob, (shl_ints _).1, shp_int, Bool.and_self, e_grt, any_ints]
theorem ints_of : ∀ l : List Int, intsOf (l.map D.int) = some l
  | [] => rfl
  | _ :: l => by rw [List.map_cons, intsOf, ints_of l]
theorem sum_l {l : List Int} : sumD [.lst (l.map D.int)] = some (.int l.sum) := by
  show ob (intsOf _) _ = _
  rw [ints_of, e_ob]
theorem sum_t {l : List Int} : sumD [.tup (l.map D.int)] = some (.int l.sum) := by
  show ob (intsOf _) _ = _
  rw [ints_of, e_ob]
theorem max_l {x : Int} {l : List Int} : maxLD [.lst ((x :: l).map D.int)] = some (.int (maxI x l)) := by
  show ob (intsOf _) _ = _
  rw [ints_of, e_ob]
theorem bls_of : ∀ l : List Bool, blsOf (l.map D.bl) = some l
  | [] => rfl
  | _ :: l => by rw [List.map_cons, blsOf, bls_of l]
theorem any_l {l : List Bool} : anyD [.lst (l.map D.bl)] = some (.bl (l.any id)) := by
  show ob (blsOf _) _ = _
  rw [bls_of, e_ob]
theorem all_l {l : List Bool} : allD [.lst (l.map D.bl)] = some (.bl (l.all id)) := by
  show ob (blsOf _) _ = _
  rw [bls_of, e_ob]
theorem ixn_of {n k : Nat} (h : k < n) : ixN n (k : Int) = some k := by
  unfold ixN
  rw [if_pos (by omega), if_pos (by omega), Int.toNat_natCast]
theorem ixn_last {n : Nat} (h : 0 < n) : ixN n (-1) = some (n - 1) := by
  unfold ixN
  rw [if_neg (by omega)]
  first
    | (rw [if_pos (by omega)]; congr 1; omega)
    | (simp; omega)
theorem at_nat {l : List D} {k : Nat} {d : D} (h : l[k]? = some d) : atI l (k : Int) = some d := by
  obtain ⟨hk, _⟩ := List.getElem?_eq_some_iff.mp h
  unfold atI
  rw [ixn_of hk, ← h]
  rfl
theorem at_last {l : List D} {d : D} : atI (l ++ [d]) (-1) = some d := by
  unfold atI
  rw [ixn_last (by simp)]
  simp [Option.bind, ob]
end DL

set_option Elab.async false
set_option linter.all false
set_option maxRecDepth 100000
set_option maxHeartbeats 4000000
namespace Lw
open PySem PySem.Spec L2 DL
set_option autoImplicit false
def topS (i : Nat) : Stmt := PySem.Challenge.pw_throwstold_k96_whole_answers_and_races.main.body.getD i (.Pass ⟨0, 0, 0, 0⟩)
structure Txt (K : PySem.W.Frag) (mg : Str → Option Value) where
  f_is_whole : Addr
  d_is_whole : FuncData
  F_is_whole : Fun K "is_whole" "is_whole" (topS 6) f_is_whole d_is_whole
  g_is_whole : mg "is_whole" = some (.ref f_is_whole)
  f_divisor : Addr
  d_divisor : FuncData
  F_divisor : Fun K "divisor" "divisor" (topS 7) f_divisor d_divisor
  g_divisor : mg "divisor" = some (.ref f_divisor)
  f_low : Addr
  d_low : FuncData
  F_low : Fun K "low" "low" (topS 8) f_low d_low
  g_low : mg "low" = some (.ref f_low)
  f_is_share : Addr
  d_is_share : FuncData
  F_is_share : Fun K "is_share" "is_share" (topS 9) f_is_share d_is_share
  g_is_share : mg "is_share" = some (.ref f_is_share)
  f_plus : Addr
  d_plus : FuncData
  F_plus : Fun K "plus" "plus" (topS 10) f_plus d_plus
  g_plus : mg "plus" = some (.ref f_plus)
  f_less : Addr
  d_less : FuncData
  F_less : Fun K "less" "less" (topS 11) f_less d_less
  g_less : mg "less" = some (.ref f_less)
  f_times : Addr
  d_times : FuncData
  F_times : Fun K "times" "times" (topS 12) f_times d_times
  g_times : mg "times" = some (.ref f_times)
  f_over : Addr
  d_over : FuncData
  F_over : Fun K "over" "over" (topS 13) f_over d_over
  g_over : mg "over" = some (.ref f_over)
  f_total : Addr
  d_total : FuncData
  F_total : Fun K "total" "total" (topS 14) f_total d_total
  g_total : mg "total" = some (.ref f_total)
  f_is_less : Addr
  d_is_less : FuncData
  F_is_less : Fun K "is_less" "is_less" (topS 15) f_is_less d_is_less
  g_is_less : mg "is_less" = some (.ref f_is_less)
  f_is_chance : Addr
  d_is_chance : FuncData
  F_is_chance : Fun K "is_chance" "is_chance" (topS 16) f_is_chance d_is_chance
  g_is_chance : mg "is_chance" = some (.ref f_is_chance)
  f_are_chances : Addr
  d_are_chances : FuncData
  F_are_chances : Fun K "are_chances" "are_chances" (topS 17) f_are_chances d_are_chances
  g_are_chances : mg "are_chances" = some (.ref f_are_chances)
  f_look_at_chances : Addr
  d_look_at_chances : FuncData
  F_look_at_chances : Fun K "look_at_chances" "look_at_chances" (topS 18) f_look_at_chances d_look_at_chances
  g_look_at_chances : mg "look_at_chances" = some (.ref f_look_at_chances)
  f_solved : Addr
  d_solved : FuncData
  F_solved : Fun K "solved" "solved" (topS 19) f_solved d_solved
  g_solved : mg "solved" = some (.ref f_solved)
  f_is_word : Addr
  d_is_word : FuncData
  F_is_word : Fun K "is_word" "is_word" (topS 22) f_is_word d_is_word
  g_is_word : mg "is_word" = some (.ref f_is_word)
  f_look_at_word : Addr
  d_look_at_word : FuncData
  F_look_at_word : Fun K "look_at_word" "look_at_word" (topS 23) f_look_at_word d_look_at_word
  g_look_at_word : mg "look_at_word" = some (.ref f_look_at_word)
  f_overlaps : Addr
  d_overlaps : FuncData
  F_overlaps : Fun K "overlaps" "overlaps" (topS 24) f_overlaps d_overlaps
  g_overlaps : mg "overlaps" = some (.ref f_overlaps)
  f_word_share : Addr
  d_word_share : FuncData
  F_word_share : Fun K "word_share" "word_share" (topS 25) f_word_share d_word_share
  g_word_share : mg "word_share" = some (.ref f_word_share)
  f_lead : Addr
  d_lead : FuncData
  F_lead : Fun K "lead" "lead" (topS 26) f_lead d_lead
  g_lead : mg "lead" = some (.ref f_lead)
  f_wait : Addr
  d_wait : FuncData
  F_wait : Fun K "wait" "wait" (topS 27) f_wait d_wait
  g_wait : mg "wait" = some (.ref f_wait)
  f_fair : Addr
  d_fair : FuncData
  F_fair : Fun K "fair" "fair" (topS 28) f_fair d_fair
  g_fair : mg "fair" = some (.ref f_fair)
  f_has_part : Addr
  d_has_part : FuncData
  F_has_part : Fun K "has_part" "has_part" (topS 30) f_has_part d_has_part
  g_has_part : mg "has_part" = some (.ref f_has_part)
  f_look_at_words : Addr
  d_look_at_words : FuncData
  F_look_at_words : Fun K "look_at_words" "look_at_words" (topS 31) f_look_at_words d_look_at_words
  g_look_at_words : mg "look_at_words" = some (.ref f_look_at_words)
  f_race : Addr
  d_race : FuncData
  F_race : Fun K "race" "race" (topS 32) f_race d_race
  g_race : mg "race" = some (.ref f_race)
  f_odds : Addr
  d_odds : FuncData
  F_odds : Fun K "odds" "odds" (topS 33) f_odds d_odds
  g_odds : mg "odds" = some (.ref f_odds)
  f_all_words : Addr
  d_all_words : FuncData
  F_all_words : Fun K "all_words" "all_words" (topS 34) f_all_words d_all_words
  g_all_words : mg "all_words" = some (.ref f_all_words)
  f_best_answer : Addr
  d_best_answer : FuncData
  F_best_answer : Fun K "best_answer" "best_answer" (topS 35) f_best_answer d_best_answer
  g_best_answer : mg "best_answer" = some (.ref f_best_answer)
  f_is_answer : Addr
  d_is_answer : FuncData
  F_is_answer : Fun K "is_answer" "is_answer" (topS 36) f_is_answer d_is_answer
  g_is_answer : mg "is_answer" = some (.ref f_is_answer)
  f__law_draws : Addr
  d__law_draws : FuncData
  F__law_draws : Fun K "_law_draws" "_law_draws" (topS 38) f__law_draws d__law_draws
  g__law_draws : mg "_law_draws" = some (.ref f__law_draws)
  f__law_draw : Addr
  d__law_draw : FuncData
  F__law_draw : Fun K "_law_draw" "_law_draw" (topS 39) f__law_draw d__law_draw
  g__law_draw : mg "_law_draw" = some (.ref f__law_draw)
  f__law_same : Addr
  d__law_same : FuncData
  F__law_same : Fun K "_law_same" "_law_same" (topS 40) f__law_same d__law_same
  g__law_same : mg "_law_same" = some (.ref f__law_same)
  f_law : Addr
  d_law : FuncData
  F_law : Fun K "law" "law" (topS 41) f_law d_law
  g_law : mg "law" = some (.ref f_law)
  n_MOST_WORD : ∃ t, mg "MOST_WORD" = some (.int 40 t)
  z_abs : mg "abs" = none
  z_all : mg "all" = none
  z_any : mg "any" = none
  z_bool : mg "bool" = none
  z_enumerate : mg "enumerate" = none
  z_int : mg "int" = none
  z_isinstance : mg "isinstance" = none
  z_len : mg "len" = none
  z_list : mg "list" = none
  z_min : mg "min" = none
  z_range : mg "range" = none
  z_str : mg "str" = none
  z_tuple : mg "tuple" = none
  z_zip : mg "zip" = none
def fuelDiv (ρ : Env') : Nat := match ρ[1]? with
  | some (some (SV.v (D.int i))) => i.natAbs + 1
  | _ => 0
def fuelSeen (ρ : Env') : Nat := 100
section
variable {P : Program} {w : World} {K : PySem.W.Frag} {mg : Str → Option Value} {base : Heap}
abbrev s_is_whole : Stmt := topS 6
theorem sc_is_whole : FnScope ["value"] ["value"] (defScope s_is_whole) := ⟨rfl, rfl, rfl, by decide +kernel, rfl, by decide +kernel, by decide +kernel⟩
theorem b_is_whole (T : Txt K mg) : Binds K T.d_is_whole ["value"] [] := T.F_is_whole.binds fun _ _ _ _ _ _ us hl => match us, hl with | [_], _ => rfl
def m_is_whole : SVt :=
    (sRet (eAnd (mIsi .int (mVar 0)) (eNot (mIsi .bool (mVar 0)))))
def den_is_whole : List D → Option D := denOf 1 m_is_whole
theorem ok_is_whole (T : Txt K mg) : FnOk P w K mg base CX0 1 T.f_is_whole T.d_is_whole ["value"] (spD K 1 den_is_whole) := fnD T.F_is_whole sc_is_whole 1 rfl fun cdv A outer s H E hr =>
    (dss_one (ds_ret (de_and (de_isi .int (by rfl) T.z_isinstance (by decide +kernel) (de_var (i := 0)) (by rfl) T.z_int (by decide +kernel)) (de_one (de_not (de_isi .bool (by rfl) T.z_isinstance (by decide +kernel) (de_var (i := 0)) (by rfl) T.z_bool (by decide +kernel)))))))
abbrev s_divisor : Stmt := topS 7
theorem sc_divisor : FnScope ["one", "other"] ["one", "other"] (defScope s_divisor) := ⟨rfl, rfl, rfl, by decide +kernel, rfl, by decide +kernel, by decide +kernel⟩
theorem b_divisor (T : Txt K mg) : Binds K T.d_divisor ["one", "other"] [] := T.F_divisor.binds fun _ _ _ _ _ _ us hl => match us, hl with | [_, _], _ => rfl
def m_divisor : SVt :=
    (sSeq (sPar 0 1 (mB absD (lCons (mVar 0) lNil)) (mB absD (lCons (mVar 1) lNil)))
    (sSeq (sWhile fuelDiv (mT (m2 (cmpI fun i j => decide (j < i)) (mVar 1) (mC (.int 0))))
      (sPar 0 1 (mVar 1) (m2 modI (mVar 0) (mVar 1))))
    (sRet (mVar 0))))
def den_divisor : List D → Option D := denOf 2 m_divisor
theorem ok_divisor (T : Txt K mg) : FnOk P w K mg base CX0 1 T.f_divisor T.d_divisor ["one", "other"] (spD K 2 den_divisor) := fnD T.F_divisor sc_divisor 2 rfl fun cdv A outer s H E hr =>
    (dss_cons (ds_par (i := 0) (j := 1) rfl sc_divisor.nd rfl rfl (by decide) rfl rfl (de_blt call_abs cd_abs (by rfl) T.z_abs (by decide +kernel) (da_cons (de_var (i := 0)) da_nil)) (de_blt call_abs cd_abs (by rfl) T.z_abs (by decide +kernel) (da_cons (de_var (i := 1)) da_nil)) (by rfl))
    (dss_cons (ds_while fuelDiv PassesOwn.never (dt_cmp op_gt od_cmp (de_var (i := 1)) de_int (nomark _))
      (dss_one (ds_par (i := 0) (j := 1) rfl sc_divisor.nd rfl rfl (by decide) rfl rfl (de_var (i := 1)) (de_op op_mod od_mod (de_var (i := 0)) (de_var (i := 1))) (by rfl))))
    (dss_one (ds_ret (de_var (i := 0))))))
abbrev s_low : Stmt := topS 8
theorem sc_low : FnScope ["above", "below", "by"] ["above", "below"] (defScope s_low) := ⟨rfl, rfl, rfl, by decide +kernel, rfl, by decide +kernel, by decide +kernel⟩
theorem b_low (T : Txt K mg) : Binds K T.d_low ["above", "below"] [] := T.F_low.binds fun _ _ _ _ _ _ us hl => match us, hl with | [_, _], _ => rfl
def m_low : SVt :=
    (sSeq (sIf (mT (m2 eqD (mVar 1) (mC (.int 0)))) sNo sNil)
    (sSeq (sSet (gVar 2) (mCall den_divisor (lCons (mVar 0) (lCons (mVar 1) lNil))))
    (sRet (eIf (mT (m2 (cmpI fun i j => decide (j < i)) (mVar 1) (mC (.int 0)))) (mTup (lCons (m2 fdivI (mVar 0) (mVar 2)) (lCons (m2 fdivI (mVar 1) (mVar 2)) lNil))) (mTup (lCons (m1 negI (m2 fdivI (mVar 0) (mVar 2))) (lCons (m1 negI (m2 fdivI (mVar 1) (mVar 2))) lNil)))))))
def den_low : List D → Option D := denOf 3 m_low
theorem ok_low (T : Txt K mg) : FnOk P w K mg base CX0 2 T.f_low T.d_low ["above", "below"] (spD K 2 den_low) := fnD T.F_low sc_low 2 rfl fun cdv A outer s H E hr =>
    (dss_cons (ds_if (dt_cmp (op_eqD hr.units) od_eq (de_var (i := 1)) de_int (nomark _))
      dss_never
      dss_nil)
    (dss_cons (ds_set (i := 2) sc_low.nd rfl (by first | exact .inl rfl | exact .inr rfl) (de_call (ok_divisor T) (hr.mono (by decide)) (by rfl) T.g_divisor T.F_divisor.kp (b_divisor T) (da_cons (de_var (i := 0)) (da_cons (de_var (i := 1)) da_nil)) (len_cons (len_cons len_nil))))
    (dss_one (ds_ret (de_if (dt_cmp op_gt od_cmp (de_var (i := 1)) de_int (nomark _)) (de_tup (da_cons (de_op op_fdivW od_fdiv (de_var (i := 0)) (de_var (i := 2))) (da_cons (de_op op_fdivW od_fdiv (de_var (i := 1)) (de_var (i := 2))) da_nil))) (de_tup (da_cons (de_neg (de_op op_fdivW od_fdiv (de_var (i := 0)) (de_var (i := 2)))) (da_cons (de_neg (de_op op_fdivW od_fdiv (de_var (i := 1)) (de_var (i := 2)))) da_nil))))))))
abbrev s_is_share : Stmt := topS 9
theorem sc_is_share : FnScope ["value"] ["value"] (defScope s_is_share) := ⟨rfl, rfl, rfl, by decide +kernel, rfl, by decide +kernel, by decide +kernel⟩
theorem b_is_share (T : Txt K mg) : Binds K T.d_is_share ["value"] [] := T.F_is_share.binds fun _ _ _ _ _ _ us hl => match us, hl with | [_], _ => rfl
def m_is_share : SVt :=
    (sSeq (sIf (tOr' (tNot' (mT (mIsi .tuple (mVar 0)))) (tOr' (mT (m2 neD (mB lenD (lCons (mVar 0) lNil)) (mC (.int 2)))) (tOr' (tNot' (mT (mCall den_is_whole (lCons (m2 ixD (mVar 0) (mC (.int 0))) lNil)))) (tNot' (mT (mCall den_is_whole (lCons (m2 ixD (mVar 0) (mC (.int 1))) lNil))))))) (sRet (mC (.bl false))) sNil)
    (sRet (eAnd (m2 (cmpI fun i j => decide (j < i)) (m2 ixD (mVar 0) (mC (.int 1))) (mC (.int 0))) (m2 eqD (mCall den_divisor (lCons (m2 ixD (mVar 0) (mC (.int 0))) (lCons (m2 ixD (mVar 0) (mC (.int 1))) lNil))) (mC (.int 1))))))
def den_is_share : List D → Option D := denOf 1 m_is_share
theorem ok_is_share (T : Txt K mg) : FnOk P w K mg base CX0 2 T.f_is_share T.d_is_share ["value"] (spD K 1 den_is_share) := fnD T.F_is_share sc_is_share 1 rfl fun cdv A outer s H E hr =>
    (dss_cons (ds_if (dt_w (dw_or (dt_not (dt_val (de_isi .tuple (by rfl) T.z_isinstance (by decide +kernel) (de_var (i := 0)) (by rfl) T.z_tuple (by decide +kernel)))) (dw_or (dt_cmp (op_neD hr.units) od_ne (de_blt call_len_seq cd_len (by rfl) T.z_len (by decide +kernel) (da_cons (de_var (i := 0)) da_nil)) de_int (nomark _)) (dw_or (dt_not (dt_val (de_call (ok_is_whole T) (hr.mono (by decide)) (by rfl) T.g_is_whole T.F_is_whole.kp (b_is_whole T) (da_cons (de_ix (de_var (i := 0)) de_int) da_nil) (len_cons len_nil)))) (dw_or1 (dt_not (dt_val (de_call (ok_is_whole T) (hr.mono (by decide)) (by rfl) T.g_is_whole T.F_is_whole.kp (b_is_whole T) (da_cons (de_ix (de_var (i := 0)) de_int) da_nil) (len_cons len_nil)))))))))
      (dss_one (ds_ret de_bl))
      dss_nil)
    (dss_one (ds_ret (de_and (de_cmp op_gt od_cmp (de_ix (de_var (i := 0)) de_int) de_int (nomark _)) (de_one (de_cmp (op_eqD hr.units) od_eq (de_call (ok_divisor T) (hr.mono (by decide)) (by rfl) T.g_divisor T.F_divisor.kp (b_divisor T) (da_cons (de_ix (de_var (i := 0)) de_int) (da_cons (de_ix (de_var (i := 0)) de_int) da_nil)) (len_cons (len_cons len_nil))) de_int (nomark _)))))))
abbrev s_plus : Stmt := topS 10
theorem sc_plus : FnScope ["one", "other"] ["one", "other"] (defScope s_plus) := ⟨rfl, rfl, rfl, by decide +kernel, rfl, by decide +kernel, by decide +kernel⟩
theorem b_plus (T : Txt K mg) : Binds K T.d_plus ["one", "other"] [] := T.F_plus.binds fun _ _ _ _ _ _ us hl => match us, hl with | [_, _], _ => rfl
def m_plus : SVt :=
    (sRet (mCall den_low (lCons (m2 addI (m2 mulI (m2 ixD (mVar 0) (mC (.int 0))) (m2 ixD (mVar 1) (mC (.int 1)))) (m2 mulI (m2 ixD (mVar 1) (mC (.int 0))) (m2 ixD (mVar 0) (mC (.int 1))))) (lCons (m2 mulI (m2 ixD (mVar 0) (mC (.int 1))) (m2 ixD (mVar 1) (mC (.int 1)))) lNil))))
def den_plus : List D → Option D := denOf 2 m_plus
theorem ok_plus (T : Txt K mg) : FnOk P w K mg base CX0 3 T.f_plus T.d_plus ["one", "other"] (spD K 2 den_plus) := fnD T.F_plus sc_plus 2 rfl fun cdv A outer s H E hr =>
    (dss_one (ds_ret (de_call (ok_low T) (hr.mono (by decide)) (by rfl) T.g_low T.F_low.kp (b_low T) (da_cons (de_op op_add od_add (de_op op_mulW od_mul (de_ix (de_var (i := 0)) de_int) (de_ix (de_var (i := 1)) de_int)) (de_op op_mulW od_mul (de_ix (de_var (i := 1)) de_int) (de_ix (de_var (i := 0)) de_int))) (da_cons (de_op op_mulW od_mul (de_ix (de_var (i := 0)) de_int) (de_ix (de_var (i := 1)) de_int)) da_nil)) (len_cons (len_cons len_nil)))))
abbrev s_less : Stmt := topS 11
theorem sc_less : FnScope ["one", "other"] ["one", "other"] (defScope s_less) := ⟨rfl, rfl, rfl, by decide +kernel, rfl, by decide +kernel, by decide +kernel⟩
theorem b_less (T : Txt K mg) : Binds K T.d_less ["one", "other"] [] := T.F_less.binds fun _ _ _ _ _ _ us hl => match us, hl with | [_, _], _ => rfl
def m_less : SVt :=
    (sRet (mCall den_low (lCons (m2 subI (m2 mulI (m2 ixD (mVar 0) (mC (.int 0))) (m2 ixD (mVar 1) (mC (.int 1)))) (m2 mulI (m2 ixD (mVar 1) (mC (.int 0))) (m2 ixD (mVar 0) (mC (.int 1))))) (lCons (m2 mulI (m2 ixD (mVar 0) (mC (.int 1))) (m2 ixD (mVar 1) (mC (.int 1)))) lNil))))
def den_less : List D → Option D := denOf 2 m_less
theorem ok_less (T : Txt K mg) : FnOk P w K mg base CX0 3 T.f_less T.d_less ["one", "other"] (spD K 2 den_less) := fnD T.F_less sc_less 2 rfl fun cdv A outer s H E hr =>
    (dss_one (ds_ret (de_call (ok_low T) (hr.mono (by decide)) (by rfl) T.g_low T.F_low.kp (b_low T) (da_cons (de_op op_sub od_sub (de_op op_mulW od_mul (de_ix (de_var (i := 0)) de_int) (de_ix (de_var (i := 1)) de_int)) (de_op op_mulW od_mul (de_ix (de_var (i := 1)) de_int) (de_ix (de_var (i := 0)) de_int))) (da_cons (de_op op_mulW od_mul (de_ix (de_var (i := 0)) de_int) (de_ix (de_var (i := 1)) de_int)) da_nil)) (len_cons (len_cons len_nil)))))
abbrev s_times : Stmt := topS 12
theorem sc_times : FnScope ["one", "other"] ["one", "other"] (defScope s_times) := ⟨rfl, rfl, rfl, by decide +kernel, rfl, by decide +kernel, by decide +kernel⟩
theorem b_times (T : Txt K mg) : Binds K T.d_times ["one", "other"] [] := T.F_times.binds fun _ _ _ _ _ _ us hl => match us, hl with | [_, _], _ => rfl
def m_times : SVt :=
    (sRet (mCall den_low (lCons (m2 mulI (m2 ixD (mVar 0) (mC (.int 0))) (m2 ixD (mVar 1) (mC (.int 0)))) (lCons (m2 mulI (m2 ixD (mVar 0) (mC (.int 1))) (m2 ixD (mVar 1) (mC (.int 1)))) lNil))))
def den_times : List D → Option D := denOf 2 m_times
theorem ok_times (T : Txt K mg) : FnOk P w K mg base CX0 3 T.f_times T.d_times ["one", "other"] (spD K 2 den_times) := fnD T.F_times sc_times 2 rfl fun cdv A outer s H E hr =>
    (dss_one (ds_ret (de_call (ok_low T) (hr.mono (by decide)) (by rfl) T.g_low T.F_low.kp (b_low T) (da_cons (de_op op_mulW od_mul (de_ix (de_var (i := 0)) de_int) (de_ix (de_var (i := 1)) de_int)) (da_cons (de_op op_mulW od_mul (de_ix (de_var (i := 0)) de_int) (de_ix (de_var (i := 1)) de_int)) da_nil)) (len_cons (len_cons len_nil)))))
abbrev s_over : Stmt := topS 13
theorem sc_over : FnScope ["one", "other"] ["one", "other"] (defScope s_over) := ⟨rfl, rfl, rfl, by decide +kernel, rfl, by decide +kernel, by decide +kernel⟩
theorem b_over (T : Txt K mg) : Binds K T.d_over ["one", "other"] [] := T.F_over.binds fun _ _ _ _ _ _ us hl => match us, hl with | [_, _], _ => rfl
def m_over : SVt :=
    (sRet (mCall den_low (lCons (m2 mulI (m2 ixD (mVar 0) (mC (.int 0))) (m2 ixD (mVar 1) (mC (.int 1)))) (lCons (m2 mulI (m2 ixD (mVar 0) (mC (.int 1))) (m2 ixD (mVar 1) (mC (.int 0)))) lNil))))
def den_over : List D → Option D := denOf 2 m_over
theorem ok_over (T : Txt K mg) : FnOk P w K mg base CX0 3 T.f_over T.d_over ["one", "other"] (spD K 2 den_over) := fnD T.F_over sc_over 2 rfl fun cdv A outer s H E hr =>
    (dss_one (ds_ret (de_call (ok_low T) (hr.mono (by decide)) (by rfl) T.g_low T.F_low.kp (b_low T) (da_cons (de_op op_mulW od_mul (de_ix (de_var (i := 0)) de_int) (de_ix (de_var (i := 1)) de_int)) (da_cons (de_op op_mulW od_mul (de_ix (de_var (i := 0)) de_int) (de_ix (de_var (i := 1)) de_int)) da_nil)) (len_cons (len_cons len_nil)))))
abbrev s_total : Stmt := topS 14
theorem sc_total : FnScope ["row", "above", "below", "one"] ["row"] (defScope s_total) := ⟨rfl, rfl, rfl, by decide +kernel, rfl, by decide +kernel, by decide +kernel⟩
theorem b_total (T : Txt K mg) : Binds K T.d_total ["row"] [] := T.F_total.binds fun _ _ _ _ _ _ us hl => match us, hl with | [_], _ => rfl
def m_total : SVt :=
    (sSeq (sSet (gTup' 2 (gCons' (gVar 1) (gCons' (gVar 2) gNil'))) (mTup (lCons (mC (.int 0)) (lCons (mC (.int 1)) lNil))))
    (sSeq (sFor (iSq (mVar 0)) (gVar 3)
      (sSet (gTup' 2 (gCons' (gVar 1) (gCons' (gVar 2) gNil'))) (mCall den_low (lCons (m2 addI (m2 mulI (mVar 1) (m2 ixD (mVar 3) (mC (.int 1)))) (m2 mulI (m2 ixD (mVar 3) (mC (.int 0))) (mVar 2))) (lCons (m2 mulI (mVar 2) (m2 ixD (mVar 3) (mC (.int 1)))) lNil)))))
    (sRet (mTup (lCons (mVar 1) (lCons (mVar 2) lNil))))))
def den_total : List D → Option D := denOf 4 m_total
theorem ok_total (T : Txt K mg) : FnOk P w K mg base CX0 3 T.f_total T.d_total ["row"] (spD K 1 den_total) := fnD T.F_total sc_total 1 rfl fun cdv A outer s H E hr =>
    (dss_cons (ds_asg (ws := [1, 2]) (de_tup (da_cons de_int (da_cons de_int da_nil))) (dg_tup rfl (dgs_cons (dg_var (i := 1) sc_total.nd rfl (by first | exact .inl rfl | exact .inr rfl)) (dgs_cons (dg_var (i := 2) sc_total.nd rfl (by first | exact .inl rfl | exact .inr rfl)) dgs_nil))))
    (dss_cons (ds_for (ws := [3]) PassesOwn.never rfl (di_seq (de_var (i := 0))) (dg_var (i := 3) sc_total.nd rfl (by first | exact .inl rfl | exact .inr rfl))
      (dss_one (ds_asg (ws := [1, 2]) (de_call (ok_low T) (hr.mono (by decide)) (by rfl) T.g_low T.F_low.kp (b_low T) (da_cons (de_op op_add od_add (de_op op_mulW od_mul (de_var (i := 1)) (de_ix (de_var (i := 3)) de_int)) (de_op op_mulW od_mul (de_ix (de_var (i := 3)) de_int) (de_var (i := 2)))) (da_cons (de_op op_mulW od_mul (de_var (i := 2)) (de_ix (de_var (i := 3)) de_int)) da_nil)) (len_cons (len_cons len_nil))) (dg_tup rfl (dgs_cons (dg_var (i := 1) sc_total.nd rfl (by first | exact .inl rfl | exact .inr rfl)) (dgs_cons (dg_var (i := 2) sc_total.nd rfl (by first | exact .inl rfl | exact .inr rfl)) dgs_nil))))))
    (dss_one (ds_ret (de_tup (da_cons (de_var (i := 1)) (da_cons (de_var (i := 2)) da_nil)))))))
abbrev s_is_less : Stmt := topS 15
theorem sc_is_less : FnScope ["one", "other"] ["one", "other"] (defScope s_is_less) := ⟨rfl, rfl, rfl, by decide +kernel, rfl, by decide +kernel, by decide +kernel⟩
theorem b_is_less (T : Txt K mg) : Binds K T.d_is_less ["one", "other"] [] := T.F_is_less.binds fun _ _ _ _ _ _ us hl => match us, hl with | [_, _], _ => rfl
def m_is_less : SVt :=
    (sRet (m2 (cmpI fun i j => decide (i < j)) (m2 mulI (m2 ixD (mVar 0) (mC (.int 0))) (m2 ixD (mVar 1) (mC (.int 1)))) (m2 mulI (m2 ixD (mVar 1) (mC (.int 0))) (m2 ixD (mVar 0) (mC (.int 1))))))
def den_is_less : List D → Option D := denOf 2 m_is_less
theorem ok_is_less (T : Txt K mg) : FnOk P w K mg base CX0 1 T.f_is_less T.d_is_less ["one", "other"] (spD K 2 den_is_less) := fnD T.F_is_less sc_is_less 2 rfl fun cdv A outer s H E hr =>
    (dss_one (ds_ret (de_cmp op_lt od_cmp (de_op op_mulW od_mul (de_ix (de_var (i := 0)) de_int) (de_ix (de_var (i := 1)) de_int)) (de_op op_mulW od_mul (de_ix (de_var (i := 1)) de_int) (de_ix (de_var (i := 0)) de_int)) (nomark _))))
abbrev s_is_chance : Stmt := topS 16
theorem sc_is_chance : FnScope ["value"] ["value"] (defScope s_is_chance) := ⟨rfl, rfl, rfl, by decide +kernel, rfl, by decide +kernel, by decide +kernel⟩
theorem b_is_chance (T : Txt K mg) : Binds K T.d_is_chance ["value"] [] := T.F_is_chance.binds fun _ _ _ _ _ _ us hl => match us, hl with | [_], _ => rfl
def m_is_chance : SVt :=
    (sRet (eAnd (mCall den_is_share (lCons (mVar 0) lNil)) (mCh (cmpI fun i j => decide (i ≤ j)) (cmpI fun i j => decide (i ≤ j)) (mC (.int 0)) (m2 ixD (mVar 0) (mC (.int 0))) (m2 ixD (mVar 0) (mC (.int 1))))))
def den_is_chance : List D → Option D := denOf 1 m_is_chance
theorem ok_is_chance (T : Txt K mg) : FnOk P w K mg base CX0 3 T.f_is_chance T.d_is_chance ["value"] (spD K 1 den_is_chance) := fnD T.F_is_chance sc_is_chance 1 rfl fun cdv A outer s H E hr =>
    (dss_one (ds_ret (de_and (de_call (ok_is_share T) (hr.mono (by decide)) (by rfl) T.g_is_share T.F_is_share.kp (b_is_share T) (da_cons (de_var (i := 0)) da_nil) (len_cons len_nil)) (de_one (de_chain op_le od_cmp op_le od_cmp de_int (de_ix (de_var (i := 0)) de_int) (de_ix (de_var (i := 0)) de_int))))))
abbrev s_are_chances : Stmt := topS 17
theorem sc_are_chances : FnScope ["value", "one"] ["value"] (defScope s_are_chances) := ⟨rfl, rfl, rfl, by decide +kernel, rfl, by decide +kernel, by decide +kernel⟩
theorem b_are_chances (T : Txt K mg) : Binds K T.d_are_chances ["value"] [] := T.F_are_chances.binds fun _ _ _ _ _ _ us hl => match us, hl with | [_], _ => rfl
def m_are_chances : SVt :=
    (sSeq (sIf (tOr' (tNot' (mT (mIsi .tuple (mVar 0)))) (tOr' (mT (m2 eqD (mB lenD (lCons (mVar 0) lNil)) (mC (.int 0)))) (tNot' (mT (mB allD (lCons (mFr (mLc (iSq (mVar 0)) (gVar 1) tYes' (mCall den_is_chance (lCons (mVar 1) lNil)) [1])) lNil)))))) (sRet (mC (.bl false))) sNil)
    (sRet (m2 eqD (mCall den_total (lCons (mVar 0) lNil)) (mTup (lCons (mC (.int 1)) (lCons (mC (.int 1)) lNil))))))
def den_are_chances : List D → Option D := denOf 2 m_are_chances
theorem ok_are_chances (T : Txt K mg) : FnOk P w K mg base CX0 4 T.f_are_chances T.d_are_chances ["value"] (spD K 1 den_are_chances) := fnD T.F_are_chances sc_are_chances 1 rfl fun cdv A outer s H E hr =>
    (dss_cons (ds_if (dt_w (dw_or (dt_not (dt_val (de_isi .tuple (by rfl) T.z_isinstance (by decide +kernel) (de_var (i := 0)) (by rfl) T.z_tuple (by decide +kernel)))) (dw_or (dt_cmp (op_eqD hr.units) od_eq (de_blt call_len_seq cd_len (by rfl) T.z_len (by decide +kernel) (da_cons (de_var (i := 0)) da_nil)) de_int (nomark _)) (dw_or1 (dt_not (dt_val (de_blt (cr_all rfl) cd_all (by rfl) T.z_all (by decide +kernel) (da_cons (df_de (df_lc (own := [("one", 1)]) rfl sc_are_chances.nd (di_seq (de_var (i := 0))) (blkOk_by (by kernel_rfl)) (fun _ _ _ _ _ => (dg_var (i := 1) sc_are_chances.nd rfl (by first | exact .inl rfl | exact .inr rfl))) (fun _ _ _ _ _ => dps_nil) (fun _ _ _ _ _ => (de_call (ok_is_chance T) (hr.mono (by decide)) (by rfl) T.g_is_chance T.F_is_chance.kp (b_is_chance T) (da_cons (de_var (i := 1)) da_nil) (len_cons len_nil))))) da_nil))))))))
      (dss_one (ds_ret de_bl))
      dss_nil)
    (dss_one (ds_ret (de_cmp (op_eqD hr.units) od_eq (de_call (ok_total T) (hr.mono (by decide)) (by rfl) T.g_total T.F_total.kp (b_total T) (da_cons (de_var (i := 0)) da_nil) (len_cons len_nil)) (de_tup (da_cons de_int (da_cons de_int da_nil))) (nomark _)))))
abbrev s_look_at_chances : Stmt := topS 18
theorem sc_look_at_chances : FnScope ["value"] ["value"] (defScope s_look_at_chances) := ⟨rfl, rfl, rfl, by decide +kernel, rfl, by decide +kernel, by decide +kernel⟩
theorem b_look_at_chances (T : Txt K mg) : Binds K T.d_look_at_chances ["value"] [] := T.F_look_at_chances.binds fun _ _ _ _ _ _ us hl => match us, hl with | [_], _ => rfl
def m_look_at_chances : SVt :=
    (sIf (tNot' (mT (mCall den_are_chances (lCons (mVar 0) lNil)))) sNo sNil)
def den_look_at_chances : List D → Option D := denOf 1 m_look_at_chances
theorem ok_look_at_chances (T : Txt K mg) : FnOk P w K mg base CX0 5 T.f_look_at_chances T.d_look_at_chances ["value"] (spD K 1 den_look_at_chances) := fnD T.F_look_at_chances sc_look_at_chances 1 rfl fun cdv A outer s H E hr =>
    (dss_one (ds_if (dt_not (dt_val (de_call (ok_are_chances T) (hr.mono (by decide)) (by rfl) T.g_are_chances T.F_are_chances.kp (b_are_chances T) (da_cons (de_var (i := 0)) da_nil) (len_cons len_nil))))
      dss_never
      dss_nil))
abbrev s_solved : Stmt := topS 19
theorem sc_solved : FnScope ["rows", "row", "wide", "at", "column", "k", "spots", "head", "one", "by", "two"] ["rows"] (defScope s_solved) := ⟨rfl, rfl, rfl, by decide +kernel, rfl, by decide +kernel, by decide +kernel⟩
theorem b_solved (T : Txt K mg) : Binds K T.d_solved ["rows"] [] := T.F_solved.binds fun _ _ _ _ _ _ us hl => match us, hl with | [_], _ => rfl
def m_solved : SVt :=
    (sSeq (sSetF 0 (mLc (iSq (mVar 0)) (gVar 1) tYes' (mFr (mBF lstD (lCons (mVar 1) lNil))) [1]))
    (sSeq (sSet (gVar 2) (m2 subI (mB lenD (lCons (m2 ixD (mVar 0) (mC (.int 0))) lNil)) (mC (.int 1))))
    (sSeq (sSet (gVar 3) (mC (.int 0)))
    (sSeq (sFor (iRange1 (mVar 2)) (gVar 4)
      (sSeq (sSetF 6 (mLc (iRange2 (mVar 3) (mB lenD (lCons (mVar 0) lNil))) (gVar 5) (mT (m2 neD (m2 ixD (m2 ixD (m2 ixD (mVar 0) (mVar 5)) (mVar 4)) (mC (.int 0))) (mC (.int 0)))) (mVar 5) [5]))
    (sSeq (sIf (mT (m2 eqD (mB lenD (lCons (mVar 6) lNil)) (mC (.int 0)))) (sRet (mC .non)) sNil)
    (sSeq (sSet (gTup' 2 (gCons' (gSub' 0 (mVar 3)) (gCons' (gSub' 0 (m2 ixD (mVar 6) (mC (.int 0)))) gNil'))) (mTup (lCons (m2 ixD (mVar 0) (m2 ixD (mVar 6) (mC (.int 0)))) (lCons (m2 ixD (mVar 0) (mVar 3)) lNil))))
    (sSeq (sSet (gVar 7) (m2 ixD (m2 ixD (mVar 0) (mVar 3)) (mVar 4)))
    (sSeq (sSetIx 0 (mVar 3) (mFr (mLc (iSq (m2 ixD (mVar 0) (mVar 3))) (gVar 8) tYes' (mCall den_over (lCons (mVar 8) (lCons (mVar 7) lNil))) [8])))
    (sSeq (sFor (iRange1 (mB lenD (lCons (mVar 0) lNil))) (gVar 5)
      (sIf (tAnd' (mT (m2 neD (mVar 5) (mVar 3))) (mT (m2 neD (m2 ixD (m2 ixD (m2 ixD (mVar 0) (mVar 5)) (mVar 4)) (mC (.int 0))) (mC (.int 0))))) (sSeq (sSet (gVar 9) (m2 ixD (m2 ixD (mVar 0) (mVar 5)) (mVar 4)))
    (sSetIx 0 (mVar 5) (mFr (mLc (iZip' (m2 ixD (mVar 0) (mVar 5)) (m2 ixD (mVar 0) (mVar 3))) (gTup' 2 (gCons' (gVar 8) (gCons' (gVar 10) gNil'))) tYes' (mCall den_less (lCons (mVar 8) (lCons (mCall den_times (lCons (mVar 9) (lCons (mVar 10) lNil))) lNil))) [8, 10])))) sNil))
    (sAug 3 (fun i j => i + j) (mC (.int 1))))))))))
    (sSeq (sIf (mT (mB anyD (lCons (mFr (mLc (iRange2 (mVar 3) (mB lenD (lCons (mVar 0) lNil))) (gVar 5) tYes' (m2 neD (m2 ixD (m2 ixD (m2 ixD (mVar 0) (mVar 5)) (mVar 2)) (mC (.int 0))) (mC (.int 0))) [5])) lNil))) (sRet (mC .non)) sNil)
    (sRet (mB tupD (lCons (mFr (mLc (iRange1 (mVar 2)) (gVar 5) tYes' (m2 ixD (m2 ixD (mVar 0) (mVar 5)) (mVar 2)) [5])) lNil))))))))
def den_solved : List D → Option D := denOf 11 m_solved
theorem ok_solved (T : Txt K mg) : FnOk P w K mg base CX0 4 T.f_solved T.d_solved ["rows"] (spD K 1 den_solved) := fnD T.F_solved sc_solved 1 rfl fun cdv A outer s H E hr =>
    (dss_cons (ds_setF (i := 0) sc_solved.nd rfl (by first | exact .inl rfl | exact .inr rfl) (df_lc (own := [("row", 1)]) rfl sc_solved.nd (di_seq (de_var (i := 0))) (blkOk_by (by kernel_rfl)) (fun _ _ _ _ _ => (dg_var (i := 1) sc_solved.nd rfl (by first | exact .inl rfl | exact .inr rfl))) (fun _ _ _ _ _ => dps_nil) (fun _ _ _ _ _ => (df_de (df_ty call_list_of cf_list (by rfl) T.z_list (by decide +kernel) (da_cons (de_var (i := 1)) da_nil))))))
    (dss_cons (ds_set (i := 2) sc_solved.nd rfl (by first | exact .inl rfl | exact .inr rfl) (de_op op_sub od_sub (de_blt call_len_seq cd_len (by rfl) T.z_len (by decide +kernel) (da_cons (de_ix (de_var (i := 0)) de_int) da_nil)) de_int))
    (dss_cons (ds_set (i := 3) sc_solved.nd rfl (by first | exact .inl rfl | exact .inr rfl) de_int)
    (dss_cons (ds_for (ws := [4]) PassesOwn.never rfl (di_range1 (by rfl) T.z_range (de_var (i := 2))) (dg_var (i := 4) sc_solved.nd rfl (by first | exact .inl rfl | exact .inr rfl))
      (dss_cons (ds_setLcF (i := 6) (own := [("k", 5)]) rfl (sw_true rfl rfl rfl (by kernel_rfl)) trivial sc_solved.nd rfl rfl (di_range2 (by rfl) T.z_range (de_var (i := 3)) (de_blt call_len_seq cd_len (by rfl) T.z_len (by decide +kernel) (da_cons (de_var (i := 0)) da_nil))) (blkOk_by (by kernel_rfl)) (fun _ _ _ _ _ => (dg_var (i := 5) sc_solved.nd rfl (by first | exact .inl rfl | exact .inr rfl))) (fun _ _ _ _ _ => (dps_one (dt_cmp (op_neD hr.units) od_ne (de_ix (de_ix (de_ix (de_var (i := 0)) (de_var (i := 5))) (de_var (i := 4))) de_int) de_int (nomark _)))) (fun _ _ _ _ _ => (de_var (i := 5))))
    (dss_cons (ds_if (dt_cmp (op_eqD hr.units) od_eq (de_blt call_len_seq cd_len (by rfl) T.z_len (by decide +kernel) (da_cons (de_var (i := 6)) da_nil)) de_int (nomark _))
      (dss_one (ds_ret de_non))
      dss_nil)
    (dss_cons (ds_asg (ws := [0, 3, 0, 6]) (de_tup (da_cons (de_ix (de_var (i := 0)) (de_ix (de_var (i := 6)) de_int)) (da_cons (de_ix (de_var (i := 0)) (de_var (i := 3))) da_nil))) (dg_tup rfl (dgs_cons (dg_sub (i := 0) rfl (by first | exact Or.inl rfl | exact Or.inr (Or.inl rfl) | exact Or.inr (Or.inr rfl)) (de_var (i := 3))) (dgs_cons (dg_sub (i := 0) rfl (by first | exact Or.inl rfl | exact Or.inr (Or.inl rfl) | exact Or.inr (Or.inr rfl)) (de_ix (de_var (i := 6)) de_int)) dgs_nil))))
    (dss_cons (ds_set (i := 7) sc_solved.nd rfl (by first | exact .inl rfl | exact .inr rfl) (de_ix (de_ix (de_var (i := 0)) (de_var (i := 3))) (de_var (i := 4))))
    (dss_cons (ds_setIx (i := 0) rfl (by first | exact Or.inl rfl | exact Or.inr (Or.inl rfl) | exact Or.inr (Or.inr rfl)) (df_de (df_lc (own := [("one", 8)]) rfl sc_solved.nd (di_seq (de_ix (de_var (i := 0)) (de_var (i := 3)))) (blkOk_by (by kernel_rfl)) (fun _ _ _ _ _ => (dg_var (i := 8) sc_solved.nd rfl (by first | exact .inl rfl | exact .inr rfl))) (fun _ _ _ _ _ => dps_nil) (fun _ _ _ _ _ => (de_call (ok_over T) (hr.mono (by decide)) (by rfl) T.g_over T.F_over.kp (b_over T) (da_cons (de_var (i := 8)) (da_cons (de_var (i := 7)) da_nil)) (len_cons (len_cons len_nil)))))) (de_var (i := 3)))
    (dss_cons (ds_for (ws := [5]) PassesOwn.never rfl (di_range1 (by rfl) T.z_range (de_blt call_len_seq cd_len (by rfl) T.z_len (by decide +kernel) (da_cons (de_var (i := 0)) da_nil))) (dg_var (i := 5) sc_solved.nd rfl (by first | exact .inl rfl | exact .inr rfl))
      (dss_one (ds_if (dt_w (dw_and (dt_cmp (op_neD hr.units) od_ne (de_var (i := 5)) (de_var (i := 3)) (nomark _)) (dw_and1 (dt_cmp (op_neD hr.units) od_ne (de_ix (de_ix (de_ix (de_var (i := 0)) (de_var (i := 5))) (de_var (i := 4))) de_int) de_int (nomark _)))))
      (dss_cons (ds_set (i := 9) sc_solved.nd rfl (by first | exact .inl rfl | exact .inr rfl) (de_ix (de_ix (de_var (i := 0)) (de_var (i := 5))) (de_var (i := 4))))
    (dss_one (ds_setIx (i := 0) rfl (by first | exact Or.inl rfl | exact Or.inr (Or.inl rfl) | exact Or.inr (Or.inr rfl)) (df_de (df_lc (own := [("one", 8), ("two", 10)]) rfl sc_solved.nd (di_zip (by rfl) T.z_zip (de_ix (de_var (i := 0)) (de_var (i := 5))) (de_ix (de_var (i := 0)) (de_var (i := 3)))) (blkOk_by (by kernel_rfl)) (fun _ _ _ _ _ => (dg_tup rfl (dgs_cons (dg_var (i := 8) sc_solved.nd rfl (by first | exact .inl rfl | exact .inr rfl)) (dgs_cons (dg_var (i := 10) sc_solved.nd rfl (by first | exact .inl rfl | exact .inr rfl)) dgs_nil)))) (fun _ _ _ _ _ => dps_nil) (fun _ _ _ _ _ => (de_call (ok_less T) (hr.mono (by decide)) (by rfl) T.g_less T.F_less.kp (b_less T) (da_cons (de_var (i := 8)) (da_cons (de_call (ok_times T) (hr.mono (by decide)) (by rfl) T.g_times T.F_times.kp (b_times T) (da_cons (de_var (i := 9)) (da_cons (de_var (i := 10)) da_nil)) (len_cons (len_cons len_nil))) da_nil)) (len_cons (len_cons len_nil)))))) (de_var (i := 5)))))
      dss_nil)))
    (dss_one (ds_aug (i := 3) sc_solved.nd rfl (by first | exact .inl rfl | exact .inr rfl) de_int ip_add)))))))))
    (dss_cons (ds_if (dt_val (de_blt (cr_any rfl) cd_any (by rfl) T.z_any (by decide +kernel) (da_cons (df_de (df_lc (own := [("k", 5)]) rfl sc_solved.nd (di_range2 (by rfl) T.z_range (de_var (i := 3)) (de_blt call_len_seq cd_len (by rfl) T.z_len (by decide +kernel) (da_cons (de_var (i := 0)) da_nil))) (blkOk_by (by kernel_rfl)) (fun _ _ _ _ _ => (dg_var (i := 5) sc_solved.nd rfl (by first | exact .inl rfl | exact .inr rfl))) (fun _ _ _ _ _ => dps_nil) (fun _ _ _ _ _ => (de_cmp (op_neD hr.units) od_ne (de_ix (de_ix (de_ix (de_var (i := 0)) (de_var (i := 5))) (de_var (i := 2))) de_int) de_int (nomark _))))) da_nil)))
      (dss_one (ds_ret de_non))
      dss_nil)
    (dss_one (ds_ret (de_ty call_tuple_of cd_tup (by rfl) T.z_tuple (by decide +kernel) (da_cons (df_de (df_lc (own := [("k", 5)]) rfl sc_solved.nd (di_range1 (by rfl) T.z_range (de_var (i := 2))) (blkOk_by (by kernel_rfl)) (fun _ _ _ _ _ => (dg_var (i := 5) sc_solved.nd rfl (by first | exact .inl rfl | exact .inr rfl))) (fun _ _ _ _ _ => dps_nil) (fun _ _ _ _ _ => (de_ix (de_ix (de_var (i := 0)) (de_var (i := 5))) (de_var (i := 2)))))) da_nil)))))))))
abbrev s_is_word : Stmt := topS 22
theorem sc_is_word : FnScope ["letters", "value", "one"] ["letters", "value"] (defScope s_is_word) := ⟨rfl, rfl, rfl, by decide +kernel, rfl, by decide +kernel, by decide +kernel⟩
theorem b_is_word (T : Txt K mg) : Binds K T.d_is_word ["letters", "value"] [] := T.F_is_word.binds fun _ _ _ _ _ _ us hl => match us, hl with | [_, _], _ => rfl
def m_is_word : SVt :=
    (sSeq (sIf (tOr' (tNot' (mT (mIsi .tuple (mVar 1)))) (tNot' (mT (mCh (cmpI fun i j => decide (i < j)) (cmpI fun i j => decide (i ≤ j)) (mC (.int 0)) (mB lenD (lCons (mVar 1) lNil)) (mC (.int 40)))))) (sRet (mC (.bl false))) sNil)
    (sRet (mB allD (lCons (mFr (mLc (iSq (mVar 1)) (gVar 2) tYes' (eAnd (mCall den_is_whole (lCons (mVar 2) lNil)) (mCh (cmpI fun i j => decide (i ≤ j)) (cmpI fun i j => decide (i < j)) (mC (.int 0)) (mVar 2) (mVar 0))) [2])) lNil))))
def den_is_word : List D → Option D := denOf 3 m_is_word
theorem ok_is_word (T : Txt K mg) : FnOk P w K mg base CX0 2 T.f_is_word T.d_is_word ["letters", "value"] (spD K 2 den_is_word) := fnD T.F_is_word sc_is_word 2 rfl fun cdv A outer s H E hr =>
    (dss_cons (ds_if (dt_w (dw_or (dt_not (dt_val (de_isi .tuple (by rfl) T.z_isinstance (by decide +kernel) (de_var (i := 1)) (by rfl) T.z_tuple (by decide +kernel)))) (dw_or1 (dt_not (dt_chain op_lt od_cmp op_le od_cmp de_int (de_blt call_len_seq cd_len (by rfl) T.z_len (by decide +kernel) (da_cons (de_var (i := 1)) da_nil)) (de_gint (by rfl) T.n_MOST_WORD))))))
      (dss_one (ds_ret de_bl))
      dss_nil)
    (dss_one (ds_ret (de_blt (cr_all rfl) cd_all (by rfl) T.z_all (by decide +kernel) (da_cons (df_de (df_lc (own := [("one", 2)]) rfl sc_is_word.nd (di_seq (de_var (i := 1))) (blkOk_by (by kernel_rfl)) (fun _ _ _ _ _ => (dg_var (i := 2) sc_is_word.nd rfl (by first | exact .inl rfl | exact .inr rfl))) (fun _ _ _ _ _ => dps_nil) (fun _ _ _ _ _ => (de_and (de_call (ok_is_whole T) (hr.mono (by decide)) (by rfl) T.g_is_whole T.F_is_whole.kp (b_is_whole T) (da_cons (de_var (i := 2)) da_nil) (len_cons len_nil)) (de_one (de_chain op_le od_cmp op_lt od_cmp de_int (de_var (i := 2)) (de_var (i := 0)))))))) da_nil)))))
abbrev s_look_at_word : Stmt := topS 23
theorem sc_look_at_word : FnScope ["chances", "value", "one"] ["chances", "value"] (defScope s_look_at_word) := ⟨rfl, rfl, rfl, by decide +kernel, rfl, by decide +kernel, by decide +kernel⟩
theorem b_look_at_word (T : Txt K mg) : Binds K T.d_look_at_word ["chances", "value"] [] := T.F_look_at_word.binds fun _ _ _ _ _ _ us hl => match us, hl with | [_, _], _ => rfl
def m_look_at_word : SVt :=
    (sSeq (sExpr (mCall den_look_at_chances (lCons (mVar 0) lNil)))
    (sIf (tOr' (tNot' (mT (mCall den_is_word (lCons (mB lenD (lCons (mVar 0) lNil)) (lCons (mVar 1) lNil))))) (tNot' (mT (mB allD (lCons (mFr (mLc (iSq (mVar 1)) (gVar 2) tYes' (m2 (cmpI fun i j => decide (j < i)) (m2 ixD (m2 ixD (mVar 0) (mVar 2)) (mC (.int 0))) (mC (.int 0))) [2])) lNil))))) sNo sNil))
def den_look_at_word : List D → Option D := denOf 3 m_look_at_word
theorem ok_look_at_word (T : Txt K mg) : FnOk P w K mg base CX0 6 T.f_look_at_word T.d_look_at_word ["chances", "value"] (spD K 2 den_look_at_word) := fnD T.F_look_at_word sc_look_at_word 2 rfl fun cdv A outer s H E hr =>
    (dss_cons (ds_expr (de_call (ok_look_at_chances T) (hr.mono (by decide)) (by rfl) T.g_look_at_chances T.F_look_at_chances.kp (b_look_at_chances T) (da_cons (de_var (i := 0)) da_nil) (len_cons len_nil)))
    (dss_one (ds_if (dt_w (dw_or (dt_not (dt_val (de_call (ok_is_word T) (hr.mono (by decide)) (by rfl) T.g_is_word T.F_is_word.kp (b_is_word T) (da_cons (de_blt call_len_seq cd_len (by rfl) T.z_len (by decide +kernel) (da_cons (de_var (i := 0)) da_nil)) (da_cons (de_var (i := 1)) da_nil)) (len_cons (len_cons len_nil))))) (dw_or1 (dt_not (dt_val (de_blt (cr_all rfl) cd_all (by rfl) T.z_all (by decide +kernel) (da_cons (df_de (df_lc (own := [("one", 2)]) rfl sc_look_at_word.nd (di_seq (de_var (i := 1))) (blkOk_by (by kernel_rfl)) (fun _ _ _ _ _ => (dg_var (i := 2) sc_look_at_word.nd rfl (by first | exact .inl rfl | exact .inr rfl))) (fun _ _ _ _ _ => dps_nil) (fun _ _ _ _ _ => (de_cmp op_gt od_cmp (de_ix (de_ix (de_var (i := 0)) (de_var (i := 2))) de_int) de_int (nomark _))))) da_nil)))))))
      dss_never
      dss_nil)))
abbrev s_overlaps : Stmt := topS 24
theorem sc_overlaps : FnScope ["first", "other", "lengths", "many"] ["first", "other"] (defScope s_overlaps) := ⟨rfl, rfl, rfl, by decide +kernel, rfl, by decide +kernel, by decide +kernel⟩
theorem b_overlaps (T : Txt K mg) : Binds K T.d_overlaps ["first", "other"] [] := T.F_overlaps.binds fun _ _ _ _ _ _ us hl => match us, hl with | [_, _], _ => rfl
def m_overlaps : SVt :=
    (sSeq (sSet (gVar 2) (mB rngD2 (lCons (mC (.int 1)) (lCons (m2 addI (mB min2D (lCons (mB lenD (lCons (mVar 0) lNil)) (lCons (mB lenD (lCons (mVar 1) lNil)) lNil))) (mC (.int 1))) lNil))))
    (sRet (mB tupD (lCons (mFr (mLc (iRgV (mVar 2)) (gVar 3) (mT (m2 eqD (mSl (mVar 0) (oSome (m2 subI (mB lenD (lCons (mVar 0) lNil)) (mVar 3))) oNo) (mSl (mVar 1) oNo (oSome (mVar 3))))) (mVar 3) [3])) lNil))))
def den_overlaps : List D → Option D := denOf 4 m_overlaps
theorem ok_overlaps (T : Txt K mg) : FnOk P w K mg base CX0 1 T.f_overlaps T.d_overlaps ["first", "other"] (spD K 2 den_overlaps) := fnD T.F_overlaps sc_overlaps 2 rfl fun cdv A outer s H E hr =>
    (dss_cons (ds_set (i := 2) sc_overlaps.nd rfl (by first | exact .inl rfl | exact .inr rfl) (de_ty cr_range2 cd_range (by rfl) T.z_range (by decide +kernel) (da_cons de_int (da_cons (de_op op_add od_add (de_blt (call_min2 rfl) cd_min2 (by rfl) T.z_min (by decide +kernel) (da_cons (de_blt call_len_seq cd_len (by rfl) T.z_len (by decide +kernel) (da_cons (de_var (i := 0)) da_nil)) (da_cons (de_blt call_len_seq cd_len (by rfl) T.z_len (by decide +kernel) (da_cons (de_var (i := 1)) da_nil)) da_nil))) de_int) da_nil))))
    (dss_one (ds_ret (de_ty call_tuple_of cd_tup (by rfl) T.z_tuple (by decide +kernel) (da_cons (df_de (df_lc (own := [("many", 3)]) rfl sc_overlaps.nd (di_rgV (de_var (i := 2))) (blkOk_by (by kernel_rfl)) (fun _ _ _ _ _ => (dg_var (i := 3) sc_overlaps.nd rfl (by first | exact .inl rfl | exact .inr rfl))) (fun _ _ _ _ _ => (dps_one (dt_cmp (op_eqD hr.units) od_eq (de_sl (de_var (i := 0)) (do_some (de_op op_sub od_sub (de_blt call_len_seq cd_len (by rfl) T.z_len (by decide +kernel) (da_cons (de_var (i := 0)) da_nil)) (de_var (i := 3)))) do_none) (de_sl (de_var (i := 1)) do_none (do_some (de_var (i := 3)))) (nomark _)))) (fun _ _ _ _ _ => (de_var (i := 3))))) da_nil)))))
abbrev s_word_share : Stmt := topS 25
theorem sc_word_share : FnScope ["chances", "word", "found", "one"] ["chances", "word"] (defScope s_word_share) := ⟨rfl, rfl, rfl, by decide +kernel, rfl, by decide +kernel, by decide +kernel⟩
theorem b_word_share (T : Txt K mg) : Binds K T.d_word_share ["chances", "word"] [] := T.F_word_share.binds fun _ _ _ _ _ _ us hl => match us, hl with | [_, _], _ => rfl
def m_word_share : SVt :=
    (sSeq (sExpr (mCall den_look_at_word (lCons (mVar 0) (lCons (mVar 1) lNil))))
    (sSeq (sSet (gVar 2) (mTup (lCons (mC (.int 1)) (lCons (mC (.int 1)) lNil))))
    (sSeq (sFor (iSq (mVar 1)) (gVar 3)
      (sSet (gVar 2) (mCall den_times (lCons (mVar 2) (lCons (m2 ixD (mVar 0) (mVar 3)) lNil)))))
    (sRet (mVar 2)))))
def den_word_share : List D → Option D := denOf 4 m_word_share
theorem ok_word_share (T : Txt K mg) : FnOk P w K mg base CX0 7 T.f_word_share T.d_word_share ["chances", "word"] (spD K 2 den_word_share) := fnD T.F_word_share sc_word_share 2 rfl fun cdv A outer s H E hr =>
    (dss_cons (ds_expr (de_call (ok_look_at_word T) (hr.mono (by decide)) (by rfl) T.g_look_at_word T.F_look_at_word.kp (b_look_at_word T) (da_cons (de_var (i := 0)) (da_cons (de_var (i := 1)) da_nil)) (len_cons (len_cons len_nil))))
    (dss_cons (ds_set (i := 2) sc_word_share.nd rfl (by first | exact .inl rfl | exact .inr rfl) (de_tup (da_cons de_int (da_cons de_int da_nil))))
    (dss_cons (ds_for (ws := [3]) PassesOwn.never rfl (di_seq (de_var (i := 1))) (dg_var (i := 3) sc_word_share.nd rfl (by first | exact .inl rfl | exact .inr rfl))
      (dss_one (ds_set (i := 2) sc_word_share.nd rfl (by first | exact .inl rfl | exact .inr rfl) (de_call (ok_times T) (hr.mono (by decide)) (by rfl) T.g_times T.F_times.kp (b_times T) (da_cons (de_var (i := 2)) (da_cons (de_ix (de_var (i := 0)) (de_var (i := 3))) da_nil)) (len_cons (len_cons len_nil))))))
    (dss_one (ds_ret (de_var (i := 2)))))))
abbrev s_lead : Stmt := topS 26
theorem sc_lead : FnScope ["chances", "first", "other", "many"] ["chances", "first", "other"] (defScope s_lead) := ⟨rfl, rfl, rfl, by decide +kernel, rfl, by decide +kernel, by decide +kernel⟩
theorem b_lead (T : Txt K mg) : Binds K T.d_lead ["chances", "first", "other"] [] := T.F_lead.binds fun _ _ _ _ _ _ us hl => match us, hl with | [_, _, _], _ => rfl
def m_lead : SVt :=
    (sSeq (sExpr (mCall den_look_at_word (lCons (mVar 0) (lCons (mVar 1) lNil))))
    (sSeq (sExpr (mCall den_look_at_word (lCons (mVar 0) (lCons (mVar 2) lNil))))
    (sRet (mCall den_total (lCons (mFr (mLc (iSq (mCall den_overlaps (lCons (mVar 1) (lCons (mVar 2) lNil)))) (gVar 3) tYes' (mCall den_over (lCons (mTup (lCons (mC (.int 1)) (lCons (mC (.int 1)) lNil))) (lCons (mCall den_word_share (lCons (mVar 0) (lCons (mSl (mVar 2) oNo (oSome (mVar 3))) lNil))) lNil))) [3])) lNil)))))
def den_lead : List D → Option D := denOf 4 m_lead
theorem ok_lead (T : Txt K mg) : FnOk P w K mg base CX0 8 T.f_lead T.d_lead ["chances", "first", "other"] (spD K 3 den_lead) := fnD T.F_lead sc_lead 3 rfl fun cdv A outer s H E hr =>
    (dss_cons (ds_expr (de_call (ok_look_at_word T) (hr.mono (by decide)) (by rfl) T.g_look_at_word T.F_look_at_word.kp (b_look_at_word T) (da_cons (de_var (i := 0)) (da_cons (de_var (i := 1)) da_nil)) (len_cons (len_cons len_nil))))
    (dss_cons (ds_expr (de_call (ok_look_at_word T) (hr.mono (by decide)) (by rfl) T.g_look_at_word T.F_look_at_word.kp (b_look_at_word T) (da_cons (de_var (i := 0)) (da_cons (de_var (i := 2)) da_nil)) (len_cons (len_cons len_nil))))
    (dss_one (ds_ret (de_call (ok_total T) (hr.mono (by decide)) (by rfl) T.g_total T.F_total.kp (b_total T) (da_cons (df_de (df_lc (own := [("many", 3)]) rfl sc_lead.nd (di_seq (de_call (ok_overlaps T) (hr.mono (by decide)) (by rfl) T.g_overlaps T.F_overlaps.kp (b_overlaps T) (da_cons (de_var (i := 1)) (da_cons (de_var (i := 2)) da_nil)) (len_cons (len_cons len_nil)))) (blkOk_by (by kernel_rfl)) (fun _ _ _ _ _ => (dg_var (i := 3) sc_lead.nd rfl (by first | exact .inl rfl | exact .inr rfl))) (fun _ _ _ _ _ => dps_nil) (fun _ _ _ _ _ => (de_call (ok_over T) (hr.mono (by decide)) (by rfl) T.g_over T.F_over.kp (b_over T) (da_cons (de_tup (da_cons de_int (da_cons de_int da_nil))) (da_cons (de_call (ok_word_share T) (hr.mono (by decide)) (by rfl) T.g_word_share T.F_word_share.kp (b_word_share T) (da_cons (de_var (i := 0)) (da_cons (de_sl (de_var (i := 2)) do_none (do_some (de_var (i := 3)))) da_nil)) (len_cons (len_cons len_nil))) da_nil)) (len_cons (len_cons len_nil)))))) da_nil) (len_cons len_nil))))))
abbrev s_wait : Stmt := topS 27
theorem sc_wait : FnScope ["chances", "word"] ["chances", "word"] (defScope s_wait) := ⟨rfl, rfl, rfl, by decide +kernel, rfl, by decide +kernel, by decide +kernel⟩
theorem b_wait (T : Txt K mg) : Binds K T.d_wait ["chances", "word"] [] := T.F_wait.binds fun _ _ _ _ _ _ us hl => match us, hl with | [_, _], _ => rfl
def m_wait : SVt :=
    (sRet (mCall den_lead (lCons (mVar 0) (lCons (mVar 1) (lCons (mVar 1) lNil)))))
def den_wait : List D → Option D := denOf 2 m_wait
theorem ok_wait (T : Txt K mg) : FnOk P w K mg base CX0 9 T.f_wait T.d_wait ["chances", "word"] (spD K 2 den_wait) := fnD T.F_wait sc_wait 2 rfl fun cdv A outer s H E hr =>
    (dss_one (ds_ret (de_call (ok_lead T) (hr.mono (by decide)) (by rfl) T.g_lead T.F_lead.kp (b_lead T) (da_cons (de_var (i := 0)) (da_cons (de_var (i := 1)) (da_cons (de_var (i := 1)) da_nil))) (len_cons (len_cons (len_cons len_nil))))))
abbrev s_fair : Stmt := topS 28
theorem sc_fair : FnScope ["letters"] ["letters"] (defScope s_fair) := ⟨rfl, rfl, rfl, by decide +kernel, rfl, by decide +kernel, by decide +kernel⟩
theorem b_fair (T : Txt K mg) : Binds K T.d_fair ["letters"] [] := T.F_fair.binds fun _ _ _ _ _ _ us hl => match us, hl with | [_], _ => rfl
def m_fair : SVt :=
    (sSeq (sIf (tOr' (tNot' (mT (mCall den_is_whole (lCons (mVar 0) lNil)))) (tNot' (mT (mCh (cmpI fun i j => decide (i ≤ j)) (cmpI fun i j => decide (i ≤ j)) (mC (.int 1)) (mVar 0) (mC (.int 40)))))) sNo sNil)
    (sRet (m2 repT (mTup (lCons (mTup (lCons (mC (.int 1)) (lCons (mVar 0) lNil))) lNil)) (mVar 0))))
def den_fair : List D → Option D := denOf 1 m_fair
theorem ok_fair (T : Txt K mg) : FnOk P w K mg base CX0 2 T.f_fair T.d_fair ["letters"] (spD K 1 den_fair) := fnD T.F_fair sc_fair 1 rfl fun cdv A outer s H E hr =>
    (dss_cons (ds_if (dt_w (dw_or (dt_not (dt_val (de_call (ok_is_whole T) (hr.mono (by decide)) (by rfl) T.g_is_whole T.F_is_whole.kp (b_is_whole T) (da_cons (de_var (i := 0)) da_nil) (len_cons len_nil)))) (dw_or1 (dt_not (dt_chain op_le od_cmp op_le od_cmp de_int (de_var (i := 0)) de_int)))))
      dss_never
      dss_nil)
    (dss_one (ds_ret (de_op op_repTA od_repT (de_tup (da_cons (de_tup (da_cons de_int (da_cons (de_var (i := 0)) da_nil))) da_nil)) (de_var (i := 0))))))
abbrev s_has_part : Stmt := topS 30
theorem sc_has_part : FnScope ["word", "part", "at"] ["word", "part"] (defScope s_has_part) := ⟨rfl, rfl, rfl, by decide +kernel, rfl, by decide +kernel, by decide +kernel⟩
theorem b_has_part (T : Txt K mg) : Binds K T.d_has_part ["word", "part"] [] := T.F_has_part.binds fun _ _ _ _ _ _ us hl => match us, hl with | [_, _], _ => rfl
def m_has_part : SVt :=
    (sRet (mB anyD (lCons (mFr (mLc (iRange1 (m2 addI (m2 subI (mB lenD (lCons (mVar 0) lNil)) (mB lenD (lCons (mVar 1) lNil))) (mC (.int 1)))) (gVar 2) tYes' (m2 eqD (mSl (mVar 0) (oSome (mVar 2)) (oSome (m2 addI (mVar 2) (mB lenD (lCons (mVar 1) lNil))))) (mVar 1)) [2])) lNil)))
def den_has_part : List D → Option D := denOf 3 m_has_part
theorem ok_has_part (T : Txt K mg) : FnOk P w K mg base CX0 1 T.f_has_part T.d_has_part ["word", "part"] (spD K 2 den_has_part) := fnD T.F_has_part sc_has_part 2 rfl fun cdv A outer s H E hr =>
    (dss_one (ds_ret (de_blt (cr_any rfl) cd_any (by rfl) T.z_any (by decide +kernel) (da_cons (df_de (df_lc (own := [("at", 2)]) rfl sc_has_part.nd (di_range1 (by rfl) T.z_range (de_op op_add od_add (de_op op_sub od_sub (de_blt call_len_seq cd_len (by rfl) T.z_len (by decide +kernel) (da_cons (de_var (i := 0)) da_nil)) (de_blt call_len_seq cd_len (by rfl) T.z_len (by decide +kernel) (da_cons (de_var (i := 1)) da_nil))) de_int)) (blkOk_by (by kernel_rfl)) (fun _ _ _ _ _ => (dg_var (i := 2) sc_has_part.nd rfl (by first | exact .inl rfl | exact .inr rfl))) (fun _ _ _ _ _ => dps_nil) (fun _ _ _ _ _ => (de_cmp (op_eqD hr.units) od_eq (de_sl (de_var (i := 0)) (do_some (de_var (i := 2))) (do_some (de_op op_add od_add (de_var (i := 2)) (de_blt call_len_seq cd_len (by rfl) T.z_len (by decide +kernel) (da_cons (de_var (i := 1)) da_nil))))) (de_var (i := 1)) (nomark _))))) da_nil))))
abbrev s_look_at_words : Stmt := topS 31
theorem sc_look_at_words : FnScope ["chances", "words", "word", "at", "one", "place", "other"] ["chances", "words"] (defScope s_look_at_words) := ⟨rfl, rfl, rfl, by decide +kernel, rfl, by decide +kernel, by decide +kernel⟩
theorem b_look_at_words (T : Txt K mg) : Binds K T.d_look_at_words ["chances", "words"] [] := T.F_look_at_words.binds fun _ _ _ _ _ _ us hl => match us, hl with | [_, _], _ => rfl
def m_look_at_words : SVt :=
    (sSeq (sExpr (mCall den_look_at_chances (lCons (mVar 0) lNil)))
    (sSeq (sIf (tOr' (tNot' (mT (mIsi .tuple (mVar 1)))) (mT (m2 (cmpI fun i j => decide (i < j)) (mB lenD (lCons (mVar 1) lNil)) (mC (.int 2))))) sNo sNil)
    (sSeq (sFor (iSq (mVar 1)) (gVar 2)
      (sExpr (mCall den_look_at_word (lCons (mVar 0) (lCons (mVar 2) lNil)))))
    (sFor (iEnum' (mVar 1)) (gTup' 2 (gCons' (gVar 3) (gCons' (gVar 4) gNil')))
      (sIf (mT (mB anyD (lCons (mFr (mLc (iEnum' (mVar 1)) (gTup' 2 (gCons' (gVar 5) (gCons' (gVar 6) gNil'))) (mT (m2 neD (mVar 5) (mVar 3))) (mCall den_has_part (lCons (mVar 4) (lCons (mVar 6) lNil))) [5, 6])) lNil))) sNo sNil)))))
def den_look_at_words : List D → Option D := denOf 7 m_look_at_words
theorem ok_look_at_words (T : Txt K mg) : FnOk P w K mg base CX0 7 T.f_look_at_words T.d_look_at_words ["chances", "words"] (spD K 2 den_look_at_words) := fnD T.F_look_at_words sc_look_at_words 2 rfl fun cdv A outer s H E hr =>
    (dss_cons (ds_expr (de_call (ok_look_at_chances T) (hr.mono (by decide)) (by rfl) T.g_look_at_chances T.F_look_at_chances.kp (b_look_at_chances T) (da_cons (de_var (i := 0)) da_nil) (len_cons len_nil)))
    (dss_cons (ds_if (dt_w (dw_or (dt_not (dt_val (de_isi .tuple (by rfl) T.z_isinstance (by decide +kernel) (de_var (i := 1)) (by rfl) T.z_tuple (by decide +kernel)))) (dw_or1 (dt_cmp op_lt od_cmp (de_blt call_len_seq cd_len (by rfl) T.z_len (by decide +kernel) (da_cons (de_var (i := 1)) da_nil)) de_int (nomark _)))))
      dss_never
      dss_nil)
    (dss_cons (ds_for (ws := [2]) PassesOwn.never rfl (di_seq (de_var (i := 1))) (dg_var (i := 2) sc_look_at_words.nd rfl (by first | exact .inl rfl | exact .inr rfl))
      (dss_one (ds_expr (de_call (ok_look_at_word T) (hr.mono (by decide)) (by rfl) T.g_look_at_word T.F_look_at_word.kp (b_look_at_word T) (da_cons (de_var (i := 0)) (da_cons (de_var (i := 2)) da_nil)) (len_cons (len_cons len_nil))))))
    (dss_one (ds_for (ws := [3, 4]) PassesOwn.never rfl (di_enum (by rfl) T.z_enumerate (de_var (i := 1))) (dg_tup rfl (dgs_cons (dg_var (i := 3) sc_look_at_words.nd rfl (by first | exact .inl rfl | exact .inr rfl)) (dgs_cons (dg_var (i := 4) sc_look_at_words.nd rfl (by first | exact .inl rfl | exact .inr rfl)) dgs_nil)))
      (dss_one (ds_if (dt_val (de_blt (cr_any rfl) cd_any (by rfl) T.z_any (by decide +kernel) (da_cons (df_de (df_lc (own := [("place", 5), ("other", 6)]) rfl sc_look_at_words.nd (di_enum (by rfl) T.z_enumerate (de_var (i := 1))) (blkOk_by (by kernel_rfl)) (fun _ _ _ _ _ => (dg_tup rfl (dgs_cons (dg_var (i := 5) sc_look_at_words.nd rfl (by first | exact .inl rfl | exact .inr rfl)) (dgs_cons (dg_var (i := 6) sc_look_at_words.nd rfl (by first | exact .inl rfl | exact .inr rfl)) dgs_nil)))) (fun _ _ _ _ _ => (dps_one (dt_cmp (op_neD hr.units) od_ne (de_var (i := 5)) (de_var (i := 3)) (nomark _)))) (fun _ _ _ _ _ => (de_call (ok_has_part T) (hr.mono (by decide)) (by rfl) T.g_has_part T.F_has_part.kp (b_has_part T) (da_cons (de_var (i := 4)) (da_cons (de_var (i := 6)) da_nil)) (len_cons (len_cons len_nil)))))) da_nil)))
      dss_never
      dss_nil)))))))
abbrev s_race : Stmt := topS 32
theorem sc_race : FnScope ["chances", "words", "rows", "other", "one", "told"] ["chances", "words"] (defScope s_race) := ⟨rfl, rfl, rfl, by decide +kernel, rfl, by decide +kernel, by decide +kernel⟩
theorem b_race (T : Txt K mg) : Binds K T.d_race ["chances", "words"] [] := T.F_race.binds fun _ _ _ _ _ _ us hl => match us, hl with | [_, _], _ => rfl
def m_race : SVt :=
    (sSeq (sExpr (mCall den_look_at_words (lCons (mVar 0) (lCons (mVar 1) lNil))))
    (sSeq (sSetF 2 (mLst lNil))
    (sSeq (sFor (iSq (mVar 1)) (gVar 3)
      (sExpr (mMeth1 2 appendD (mFr (m2F catL (mFr (mLc (iSq (mVar 1)) (gVar 4) tYes' (mCall den_lead (lCons (mVar 0) (lCons (mVar 4) (lCons (mVar 3) lNil)))) [4])) (mFr (mLst (lCons (mTup (lCons (m1 negI (mC (.int 1))) (lCons (mC (.int 1)) lNil))) (lCons (mTup (lCons (mC (.int 0)) (lCons (mC (.int 1)) lNil))) lNil)))))))))
    (sSeq (sExpr (mMeth1 2 appendD (mFr (m2F catL (mFr (m2F repL (mFr (mLst (lCons (mTup (lCons (mC (.int 1)) (lCons (mC (.int 1)) lNil))) lNil))) (mB lenD (lCons (mVar 1) lNil)))) (mFr (mLst (lCons (mTup (lCons (mC (.int 0)) (lCons (mC (.int 1)) lNil))) (lCons (mTup (lCons (mC (.int 1)) (lCons (mC (.int 1)) lNil))) lNil))))))))
    (sSeq (sSet (gVar 5) (mCall den_solved (lCons (mVar 2) lNil)))
    (sRet (mTup (lCons (mSl (mVar 5) oNo (oSome (m1 negI (mC (.int 1))))) (lCons (m2 ixD (mVar 5) (m1 negI (mC (.int 1)))) lNil)))))))))
def den_race : List D → Option D := denOf 6 m_race
theorem ok_race (T : Txt K mg) : FnOk P w K mg base CX0 9 T.f_race T.d_race ["chances", "words"] (spD K 2 den_race) := fnD T.F_race sc_race 2 rfl fun cdv A outer s H E hr =>
    (dss_cons (ds_expr (de_call (ok_look_at_words T) (hr.mono (by decide)) (by rfl) T.g_look_at_words T.F_look_at_words.kp (b_look_at_words T) (da_cons (de_var (i := 0)) (da_cons (de_var (i := 1)) da_nil)) (len_cons (len_cons len_nil))))
    (dss_cons (ds_setF (i := 2) sc_race.nd rfl (by first | exact .inl rfl | exact .inr rfl) (df_lst da_nil))
    (dss_cons (ds_for (ws := [3]) PassesOwn.never rfl (di_seq (de_var (i := 1))) (dg_var (i := 3) sc_race.nd rfl (by first | exact .inl rfl | exact .inr rfl))
      (dss_one (ds_expr (de_meth1 (i := 2) PySem.F.slot_list_append PySem.F.type_list_append mt_append md_append rfl (by first | exact Or.inl rfl | exact Or.inr (Or.inl rfl) | exact Or.inr (Or.inr rfl)) (df_de (df_op op_cat of_catL (df_de (df_lc (own := [("one", 4)]) rfl sc_race.nd (di_seq (de_var (i := 1))) (blkOk_by (by kernel_rfl)) (fun _ _ _ _ _ => (dg_var (i := 4) sc_race.nd rfl (by first | exact .inl rfl | exact .inr rfl))) (fun _ _ _ _ _ => dps_nil) (fun _ _ _ _ _ => (de_call (ok_lead T) (hr.mono (by decide)) (by rfl) T.g_lead T.F_lead.kp (b_lead T) (da_cons (de_var (i := 0)) (da_cons (de_var (i := 4)) (da_cons (de_var (i := 3)) da_nil))) (len_cons (len_cons (len_cons len_nil))))))) (df_de (df_lst (da_cons (de_tup (da_cons (de_neg de_int) (da_cons de_int da_nil))) (da_cons (de_tup (da_cons de_int (da_cons de_int da_nil))) da_nil))))))))))
    (dss_cons (ds_expr (de_meth1 (i := 2) PySem.F.slot_list_append PySem.F.type_list_append mt_append md_append rfl (by first | exact Or.inl rfl | exact Or.inr (Or.inl rfl) | exact Or.inr (Or.inr rfl)) (df_de (df_op op_cat of_catL (df_de (df_op op_rep of_repL (df_de (df_lst (da_cons (de_tup (da_cons de_int (da_cons de_int da_nil))) da_nil))) (de_blt call_len_seq cd_len (by rfl) T.z_len (by decide +kernel) (da_cons (de_var (i := 1)) da_nil)))) (df_de (df_lst (da_cons (de_tup (da_cons de_int (da_cons de_int da_nil))) (da_cons (de_tup (da_cons de_int (da_cons de_int da_nil))) da_nil))))))))
    (dss_cons (ds_set (i := 5) sc_race.nd rfl (by first | exact .inl rfl | exact .inr rfl) (de_call (ok_solved T) (hr.mono (by decide)) (by rfl) T.g_solved T.F_solved.kp (b_solved T) (da_cons (de_var (i := 2)) da_nil) (len_cons len_nil)))
    (dss_one (ds_ret (de_tup (da_cons (de_sl (de_var (i := 5)) do_none (do_some (de_neg de_int))) (da_cons (de_ix (de_var (i := 5)) (de_neg de_int)) da_nil))))))))))
abbrev s_odds : Stmt := topS 33
theorem sc_odds : FnScope ["letters", "first", "other", "chances", "one", "two"] ["letters", "first", "other"] (defScope s_odds) := ⟨rfl, rfl, rfl, by decide +kernel, rfl, by decide +kernel, by decide +kernel⟩
theorem b_odds (T : Txt K mg) : Binds K T.d_odds ["letters", "first", "other"] [] := T.F_odds.binds fun _ _ _ _ _ _ us hl => match us, hl with | [_, _, _], _ => rfl
def m_odds : SVt :=
    (sSeq (sSet (gVar 3) (mCall den_fair (lCons (mVar 0) lNil)))
    (sSeq (sExpr (mCall den_look_at_words (lCons (mVar 3) (lCons (mTup (lCons (mVar 1) (lCons (mVar 2) lNil))) lNil))))
    (sSeq (sSet (gVar 4) (mCall den_less (lCons (mCall den_lead (lCons (mVar 3) (lCons (mVar 2) (lCons (mVar 2) lNil)))) (lCons (mCall den_lead (lCons (mVar 3) (lCons (mVar 2) (lCons (mVar 1) lNil)))) lNil))))
    (sSeq (sSet (gVar 5) (mCall den_less (lCons (mCall den_lead (lCons (mVar 3) (lCons (mVar 1) (lCons (mVar 1) lNil)))) (lCons (mCall den_lead (lCons (mVar 3) (lCons (mVar 1) (lCons (mVar 2) lNil)))) lNil))))
    (sRet (mTup (lCons (mCall den_over (lCons (mVar 4) (lCons (mCall den_plus (lCons (mVar 4) (lCons (mVar 5) lNil))) lNil))) (lCons (mCall den_over (lCons (mVar 5) (lCons (mCall den_plus (lCons (mVar 4) (lCons (mVar 5) lNil))) lNil))) lNil))))))))
def den_odds : List D → Option D := denOf 6 m_odds
theorem ok_odds (T : Txt K mg) : FnOk P w K mg base CX0 9 T.f_odds T.d_odds ["letters", "first", "other"] (spD K 3 den_odds) := fnD T.F_odds sc_odds 3 rfl fun cdv A outer s H E hr =>
    (dss_cons (ds_set (i := 3) sc_odds.nd rfl (by first | exact .inl rfl | exact .inr rfl) (de_call (ok_fair T) (hr.mono (by decide)) (by rfl) T.g_fair T.F_fair.kp (b_fair T) (da_cons (de_var (i := 0)) da_nil) (len_cons len_nil)))
    (dss_cons (ds_expr (de_call (ok_look_at_words T) (hr.mono (by decide)) (by rfl) T.g_look_at_words T.F_look_at_words.kp (b_look_at_words T) (da_cons (de_var (i := 3)) (da_cons (de_tup (da_cons (de_var (i := 1)) (da_cons (de_var (i := 2)) da_nil))) da_nil)) (len_cons (len_cons len_nil))))
    (dss_cons (ds_set (i := 4) sc_odds.nd rfl (by first | exact .inl rfl | exact .inr rfl) (de_call (ok_less T) (hr.mono (by decide)) (by rfl) T.g_less T.F_less.kp (b_less T) (da_cons (de_call (ok_lead T) (hr.mono (by decide)) (by rfl) T.g_lead T.F_lead.kp (b_lead T) (da_cons (de_var (i := 3)) (da_cons (de_var (i := 2)) (da_cons (de_var (i := 2)) da_nil))) (len_cons (len_cons (len_cons len_nil)))) (da_cons (de_call (ok_lead T) (hr.mono (by decide)) (by rfl) T.g_lead T.F_lead.kp (b_lead T) (da_cons (de_var (i := 3)) (da_cons (de_var (i := 2)) (da_cons (de_var (i := 1)) da_nil))) (len_cons (len_cons (len_cons len_nil)))) da_nil)) (len_cons (len_cons len_nil))))
    (dss_cons (ds_set (i := 5) sc_odds.nd rfl (by first | exact .inl rfl | exact .inr rfl) (de_call (ok_less T) (hr.mono (by decide)) (by rfl) T.g_less T.F_less.kp (b_less T) (da_cons (de_call (ok_lead T) (hr.mono (by decide)) (by rfl) T.g_lead T.F_lead.kp (b_lead T) (da_cons (de_var (i := 3)) (da_cons (de_var (i := 1)) (da_cons (de_var (i := 1)) da_nil))) (len_cons (len_cons (len_cons len_nil)))) (da_cons (de_call (ok_lead T) (hr.mono (by decide)) (by rfl) T.g_lead T.F_lead.kp (b_lead T) (da_cons (de_var (i := 3)) (da_cons (de_var (i := 1)) (da_cons (de_var (i := 2)) da_nil))) (len_cons (len_cons (len_cons len_nil)))) da_nil)) (len_cons (len_cons len_nil))))
    (dss_one (ds_ret (de_tup (da_cons (de_call (ok_over T) (hr.mono (by decide)) (by rfl) T.g_over T.F_over.kp (b_over T) (da_cons (de_var (i := 4)) (da_cons (de_call (ok_plus T) (hr.mono (by decide)) (by rfl) T.g_plus T.F_plus.kp (b_plus T) (da_cons (de_var (i := 4)) (da_cons (de_var (i := 5)) da_nil)) (len_cons (len_cons len_nil))) da_nil)) (len_cons (len_cons len_nil))) (da_cons (de_call (ok_over T) (hr.mono (by decide)) (by rfl) T.g_over T.F_over.kp (b_over T) (da_cons (de_var (i := 5)) (da_cons (de_call (ok_plus T) (hr.mono (by decide)) (by rfl) T.g_plus T.F_plus.kp (b_plus T) (da_cons (de_var (i := 4)) (da_cons (de_var (i := 5)) da_nil)) (len_cons (len_cons len_nil))) da_nil)) (len_cons (len_cons len_nil))) da_nil)))))))))
abbrev s_all_words : Stmt := topS 34
theorem sc_all_words : FnScope ["letters", "length", "rows", "_", "row", "one"] ["letters", "length"] (defScope s_all_words) := ⟨rfl, rfl, rfl, by decide +kernel, rfl, by decide +kernel, by decide +kernel⟩
theorem b_all_words (T : Txt K mg) : Binds K T.d_all_words ["letters", "length"] [] := T.F_all_words.binds fun _ _ _ _ _ _ us hl => match us, hl with | [_, _], _ => rfl
def m_all_words : SVt :=
    (sSeq (sSet (gVar 2) (mFr (mLst (lCons (mTup lNil) lNil))))
    (sSeq (sFor (iRange1 (mVar 1)) (gVar 3)
      (sSeq (sIf (mT (m2 (cmpI fun i j => decide (j < i)) (m2 mulI (mB lenD (lCons (mVar 2) lNil)) (mVar 0)) (mC (.int 5000)))) sNo sNil)
    (sSet (gVar 2) (mFr (mLc2 (iSq (mVar 2)) (gVar 4) tYes' (iRange1 (mVar 0)) (gVar 5) tYes' (m2 catT (mVar 4) (mTup (lCons (mVar 5) lNil))) [4, 5] [5])))))
    (sRet (mVar 2))))
def den_all_words : List D → Option D := denOf 6 m_all_words
theorem ok_all_words (T : Txt K mg) : FnOk P w K mg base CX0 1 T.f_all_words T.d_all_words ["letters", "length"] (spD K 2 den_all_words) := fnD T.F_all_words sc_all_words 2 rfl fun cdv A outer s H E hr =>
    (dss_cons (ds_set (i := 2) sc_all_words.nd rfl (by first | exact .inl rfl | exact .inr rfl) (df_de (df_lst (da_cons (de_tup da_nil) da_nil))))
    (dss_cons (ds_for (ws := [3]) PassesOwn.never rfl (di_range1 (by rfl) T.z_range (de_var (i := 1))) (dg_var (i := 3) sc_all_words.nd rfl (by first | exact .inl rfl | exact .inr rfl))
      (dss_cons (ds_if (dt_cmp op_gt od_cmp (de_op op_mulW od_mul (de_blt call_len_seq cd_len (by rfl) T.z_len (by decide +kernel) (da_cons (de_var (i := 2)) da_nil)) (de_var (i := 0))) de_int (nomark _))
      dss_never
      dss_nil)
    (dss_one (ds_setLc2 (i := 2) (own := [("row", 4), ("one", 5)]) (vs1 := [5]) rfl (sw_true rfl rfl rfl (by kernel_rfl)) trivial sc_all_words.nd rfl rfl (di_seq (de_var (i := 2))) (blkOk_by (by kernel_rfl)) (by decide) (fun _ _ _ _ _ => (dg_var (i := 4) sc_all_words.nd rfl (by first | exact .inl rfl | exact .inr rfl))) (fun _ _ _ _ _ => dps_nil) (fun _ _ _ _ _ => (di_range1 (by rfl) T.z_range (de_var (i := 0)))) (fun _ _ _ _ _ => (dg_var (i := 5) sc_all_words.nd rfl (by first | exact .inl rfl | exact .inr rfl))) (fun _ _ _ _ _ => dps_nil) (fun _ _ _ _ _ => (de_op op_catA od_catT (de_var (i := 4)) (de_tup (da_cons (de_var (i := 5)) da_nil))))))))
    (dss_one (ds_ret (de_var (i := 2))))))
abbrev s_best_answer : Stmt := topS 35
theorem sc_best_answer : FnScope ["letters", "word", "best", "other", "share"] ["letters", "word"] (defScope s_best_answer) := ⟨rfl, rfl, rfl, by decide +kernel, rfl, by decide +kernel, by decide +kernel⟩
theorem b_best_answer (T : Txt K mg) : Binds K T.d_best_answer ["letters", "word"] [] := T.F_best_answer.binds fun _ _ _ _ _ _ us hl => match us, hl with | [_, _], _ => rfl
def m_best_answer : SVt :=
    (sSeq (sIf (tOr' (tNot' (mT (mCall den_is_word (lCons (mVar 0) (lCons (mVar 1) lNil))))) (tOr' (mT (m2 (cmpI fun i j => decide (i < j)) (mB lenD (lCons (mVar 1) lNil)) (mC (.int 2)))) (mT (m2 (cmpI fun i j => decide (i < j)) (mVar 0) (mC (.int 2)))))) sNo sNil)
    (sSeq (sSet (gVar 2) (mC .non))
    (sSeq (sFor (iSq (mCall den_all_words (lCons (mVar 0) (lCons (mB lenD (lCons (mVar 1) lNil)) lNil)))) (gVar 3)
      (sIf (mT (m2 neD (mVar 3) (mVar 1))) (sSeq (sSet (gVar 4) (m2 ixD (mCall den_odds (lCons (mVar 0) (lCons (mVar 3) (lCons (mVar 1) lNil)))) (mC (.int 0))))
    (sIf (tOr' (mT (m2 isN (mVar 2) (mC .non))) (mT (mCall den_is_less (lCons (m2 ixD (mVar 2) (mC (.int 1))) (lCons (mVar 4) lNil))))) (sSet (gVar 2) (mTup (lCons (mVar 3) (lCons (mVar 4) lNil)))) sNil)) sNil))
    (sRet (mVar 2)))))
def den_best_answer : List D → Option D := denOf 5 m_best_answer
theorem ok_best_answer (T : Txt K mg) : FnOk P w K mg base CX0 10 T.f_best_answer T.d_best_answer ["letters", "word"] (spD K 2 den_best_answer) := fnD T.F_best_answer sc_best_answer 2 rfl fun cdv A outer s H E hr =>
    (dss_cons (ds_if (dt_w (dw_or (dt_not (dt_val (de_call (ok_is_word T) (hr.mono (by decide)) (by rfl) T.g_is_word T.F_is_word.kp (b_is_word T) (da_cons (de_var (i := 0)) (da_cons (de_var (i := 1)) da_nil)) (len_cons (len_cons len_nil))))) (dw_or (dt_cmp op_lt od_cmp (de_blt call_len_seq cd_len (by rfl) T.z_len (by decide +kernel) (da_cons (de_var (i := 1)) da_nil)) de_int (nomark _)) (dw_or1 (dt_cmp op_lt od_cmp (de_var (i := 0)) de_int (nomark _))))))
      dss_never
      dss_nil)
    (dss_cons (ds_set (i := 2) sc_best_answer.nd rfl (by first | exact .inl rfl | exact .inr rfl) de_non)
    (dss_cons (ds_for (ws := [3]) PassesOwn.never rfl (di_seq (de_call (ok_all_words T) (hr.mono (by decide)) (by rfl) T.g_all_words T.F_all_words.kp (b_all_words T) (da_cons (de_var (i := 0)) (da_cons (de_blt call_len_seq cd_len (by rfl) T.z_len (by decide +kernel) (da_cons (de_var (i := 1)) da_nil)) da_nil)) (len_cons (len_cons len_nil)))) (dg_var (i := 3) sc_best_answer.nd rfl (by first | exact .inl rfl | exact .inr rfl))
      (dss_one (ds_if (dt_cmp (op_neD hr.units) od_ne (de_var (i := 3)) (de_var (i := 1)) (nomark _))
      (dss_cons (ds_set (i := 4) sc_best_answer.nd rfl (by first | exact .inl rfl | exact .inr rfl) (de_ix (de_call (ok_odds T) (hr.mono (by decide)) (by rfl) T.g_odds T.F_odds.kp (b_odds T) (da_cons (de_var (i := 0)) (da_cons (de_var (i := 3)) (da_cons (de_var (i := 1)) da_nil))) (len_cons (len_cons (len_cons len_nil)))) de_int))
    (dss_one (ds_if (dt_w (dw_or (dt_cmp op_isN od_isN (de_var (i := 2)) de_non (nomark _)) (dw_or1 (dt_val (de_call (ok_is_less T) (hr.mono (by decide)) (by rfl) T.g_is_less T.F_is_less.kp (b_is_less T) (da_cons (de_ix (de_var (i := 2)) de_int) (da_cons (de_var (i := 4)) da_nil)) (len_cons (len_cons len_nil)))))))
      (dss_one (ds_set (i := 2) sc_best_answer.nd rfl (by first | exact .inl rfl | exact .inr rfl) (de_tup (da_cons (de_var (i := 3)) (da_cons (de_var (i := 4)) da_nil)))))
      dss_nil)))
      dss_nil)))
    (dss_one (ds_ret (de_var (i := 2)))))))
abbrev s_is_answer : Stmt := topS 36
theorem sc_is_answer : FnScope ["letters", "word", "other", "share"] ["letters", "word", "other"] (defScope s_is_answer) := ⟨rfl, rfl, rfl, by decide +kernel, rfl, by decide +kernel, by decide +kernel⟩
theorem b_is_answer (T : Txt K mg) : Binds K T.d_is_answer ["letters", "word", "other"] [] := T.F_is_answer.binds fun _ _ _ _ _ _ us hl => match us, hl with | [_, _, _], _ => rfl
def m_is_answer : SVt :=
    (sSeq (sIf (tOr' (mT (m2 neD (mB lenD (lCons (mVar 2) lNil)) (mB lenD (lCons (mVar 1) lNil)))) (mT (m2 eqD (mVar 2) (mVar 1)))) (sRet (mC (.bl false))) sNil)
    (sSeq (sSet (gVar 3) (m2 ixD (mCall den_odds (lCons (mVar 0) (lCons (mVar 2) (lCons (mVar 1) lNil)))) (mC (.int 0))))
    (sRet (mCall den_is_less (lCons (mTup (lCons (mC (.int 1)) (lCons (mC (.int 2)) lNil))) (lCons (mVar 3) lNil))))))
def den_is_answer : List D → Option D := denOf 4 m_is_answer
theorem ok_is_answer (T : Txt K mg) : FnOk P w K mg base CX0 10 T.f_is_answer T.d_is_answer ["letters", "word", "other"] (spD K 3 den_is_answer) := fnD T.F_is_answer sc_is_answer 3 rfl fun cdv A outer s H E hr =>
    (dss_cons (ds_if (dt_w (dw_or (dt_cmp (op_neD hr.units) od_ne (de_blt call_len_seq cd_len (by rfl) T.z_len (by decide +kernel) (da_cons (de_var (i := 2)) da_nil)) (de_blt call_len_seq cd_len (by rfl) T.z_len (by decide +kernel) (da_cons (de_var (i := 1)) da_nil)) (nomark _)) (dw_or1 (dt_cmp (op_eqD hr.units) od_eq (de_var (i := 2)) (de_var (i := 1)) (nomark _)))))
      (dss_one (ds_ret de_bl))
      dss_nil)
    (dss_cons (ds_set (i := 3) sc_is_answer.nd rfl (by first | exact .inl rfl | exact .inr rfl) (de_ix (de_call (ok_odds T) (hr.mono (by decide)) (by rfl) T.g_odds T.F_odds.kp (b_odds T) (da_cons (de_var (i := 0)) (da_cons (de_var (i := 2)) (da_cons (de_var (i := 1)) da_nil))) (len_cons (len_cons (len_cons len_nil)))) de_int))
    (dss_one (ds_ret (de_call (ok_is_less T) (hr.mono (by decide)) (by rfl) T.g_is_less T.F_is_less.kp (b_is_less T) (da_cons (de_tup (da_cons de_int (da_cons de_int da_nil))) (da_cons (de_var (i := 3)) da_nil)) (len_cons (len_cons len_nil)))))))
abbrev s__law_draws : Stmt := topS 38
theorem sc__law_draws : FnScope ["script"] ["script"] (defScope s__law_draws) := ⟨rfl, rfl, rfl, by decide +kernel, rfl, by decide +kernel, by decide +kernel⟩
theorem b__law_draws (T : Txt K mg) : Binds K T.d__law_draws ["script"] [] := T.F__law_draws.binds fun _ _ _ _ _ _ us hl => match us, hl with | [_], _ => rfl
def m__law_draws : FV :=
    (mLst (lCons (mFr (mBF lstD (lCons (mVar 0) lNil))) (lCons (mC (.int 0)) (lCons (mC (.int 0)) (lCons (mC (.int 1)) lNil)))))
def den__law_draws : List D → Option D := denF 1 m__law_draws
theorem ok__law_draws (T : Txt K mg) : FnOk P w K mg base CX0 1 T.f__law_draws T.d__law_draws ["script"] (spF K 1 den__law_draws) := fnF T.F__law_draws sc__law_draws 1 rfl rfl fun cdv A outer s H E hr =>
    (df_lst (da_cons (df_de (df_ty call_list_of cf_list (by rfl) T.z_list (by decide +kernel) (da_cons (de_var (i := 0)) da_nil))) (da_cons de_int (da_cons de_int (da_cons de_int da_nil)))))
abbrev s__law_draw : Stmt := topS 39
theorem sc__law_draw : FnScope ["draws", "limit", "cell", "value"] ["draws", "limit"] (defScope s__law_draw) := ⟨rfl, rfl, rfl, by decide +kernel, rfl, by decide +kernel, by decide +kernel⟩
theorem b__law_draw (T : Txt K mg) : Binds K T.d__law_draw ["draws", "limit"] [] := T.F__law_draw.binds fun _ _ _ _ _ _ us hl => match us, hl with | [_, _], _ => rfl
def m__law_draw : SVt :=
    (sSeq (sIf (tAnd' (mT (m2 eqD (m2 ixD (mVar 0) (mC (.int 2))) (mC (.int 0)))) (mT (m2 (cmpI fun i j => decide (i < j)) (m2 ixD (mVar 0) (mC (.int 1))) (mB lenD (lCons (m2 ixD (mVar 0) (mC (.int 0))) lNil))))) (sSeq (sSet (gVar 2) (m2 ixD (m2 ixD (mVar 0) (mC (.int 0))) (m2 ixD (mVar 0) (mC (.int 1)))))
    (sSeq (sSetIx 0 (mC (.int 1)) (m2 addI (m2 ixD (mVar 0) (mC (.int 1))) (mC (.int 1))))
    (sSeq (sIf (mT (m2 (cmpI fun i j => decide (j ≤ i)) (mVar 2) (m2 powI (mC (.int 10)) (mC (.int 18))))) (sSetIx 0 (mC (.int 2)) (mVar 2)) sNil)
    (sSetIx 0 (mC (.int 3)) (m2 modI (mB intD (lCons (m2 addI (m2 addI (m2 mulI (m2 ixD (mVar 0) (mC (.int 3))) (mC (.int 48271))) (mVar 2)) (mC (.int 13))) lNil)) (mC (.int 2147483647))))))) sNil)
    (sSeq (sIf (mT (m2 (cmpI fun i j => decide (j < i)) (m2 ixD (mVar 0) (mC (.int 2))) (mC (.int 0)))) (sSeq (sSet (gVar 3) (m2 modI (mB intD (lCons (m2 ixD (mVar 0) (mC (.int 2))) lNil)) (mVar 1)))
    (sSeq (sSetIx 0 (mC (.int 2)) (m2 fdivI (m2 ixD (mVar 0) (mC (.int 2))) (mVar 1)))
    (sRet (mVar 3)))) sNil)
    (sSeq (sSetIx 0 (mC (.int 3)) (m2 modI (mB intD (lCons (m2 addI (m2 mulI (m2 ixD (mVar 0) (mC (.int 3))) (mC (.int 69621))) (mC (.int 7))) lNil)) (mC (.int 2147483629))))
    (sRet (m2 modI (mB intD (lCons (m2 fdivI (m2 ixD (mVar 0) (mC (.int 3))) (mC (.int 11))) lNil)) (mVar 1))))))
def den__law_draw : D → List D → Option (D × D) := denIO 4 m__law_draw
theorem ok__law_draw (T : Txt K mg) : FnOk P w K mg base CX0 1 T.f__law_draw T.d__law_draw ["draws", "limit"] (spIO K 1 den__law_draw) := fnIO T.F__law_draw sc__law_draw 1 rfl fun cdv A outer s H E hr =>
    (dss_cons (ds_if (dt_w (dw_and (dt_cmp (op_eqD hr.units) od_eq (de_ix (de_var (i := 0)) de_int) de_int (nomark _)) (dw_and1 (dt_cmp op_lt od_cmp (de_ix (de_var (i := 0)) de_int) (de_blt call_len_seq cd_len (by rfl) T.z_len (by decide +kernel) (da_cons (de_ix (de_var (i := 0)) de_int) da_nil)) (nomark _)))))
      (dss_cons (ds_set (i := 2) sc__law_draw.nd rfl (by first | exact .inl rfl | exact .inr rfl) (de_ix (de_ix (de_var (i := 0)) de_int) (de_ix (de_var (i := 0)) de_int)))
    (dss_cons (ds_setIx (i := 0) rfl (by first | exact Or.inl rfl | exact Or.inr (Or.inl rfl) | exact Or.inr (Or.inr rfl)) (de_op op_add od_add (de_ix (de_var (i := 0)) de_int) de_int) de_int)
    (dss_cons (ds_if (dt_cmp op_ge od_cmp (de_var (i := 2)) (de_op op_pow od_pow de_int de_int) (nomark _))
      (dss_one (ds_setIx (i := 0) rfl (by first | exact Or.inl rfl | exact Or.inr (Or.inl rfl) | exact Or.inr (Or.inr rfl)) (de_var (i := 2)) de_int))
      dss_nil)
    (dss_one (ds_setIx (i := 0) rfl (by first | exact Or.inl rfl | exact Or.inr (Or.inl rfl) | exact Or.inr (Or.inr rfl)) (de_op op_mod od_mod (de_ty call_int1 cd_int (by rfl) T.z_int (by decide +kernel) (da_cons (de_op op_add od_add (de_op op_add od_add (de_op op_mulW od_mul (de_ix (de_var (i := 0)) de_int) de_int) (de_var (i := 2))) de_int) da_nil)) de_int) de_int)))))
      dss_nil)
    (dss_cons (ds_if (dt_cmp op_gt od_cmp (de_ix (de_var (i := 0)) de_int) de_int (nomark _))
      (dss_cons (ds_set (i := 3) sc__law_draw.nd rfl (by first | exact .inl rfl | exact .inr rfl) (de_op op_mod od_mod (de_ty call_int1 cd_int (by rfl) T.z_int (by decide +kernel) (da_cons (de_ix (de_var (i := 0)) de_int) da_nil)) (de_var (i := 1))))
    (dss_cons (ds_setIx (i := 0) rfl (by first | exact Or.inl rfl | exact Or.inr (Or.inl rfl) | exact Or.inr (Or.inr rfl)) (de_op op_fdivW od_fdiv (de_ix (de_var (i := 0)) de_int) (de_var (i := 1))) de_int)
    (dss_one (ds_ret (de_var (i := 3))))))
      dss_nil)
    (dss_cons (ds_setIx (i := 0) rfl (by first | exact Or.inl rfl | exact Or.inr (Or.inl rfl) | exact Or.inr (Or.inr rfl)) (de_op op_mod od_mod (de_ty call_int1 cd_int (by rfl) T.z_int (by decide +kernel) (da_cons (de_op op_add od_add (de_op op_mulW od_mul (de_ix (de_var (i := 0)) de_int) de_int) de_int) da_nil)) de_int) de_int)
    (dss_one (ds_ret (de_op op_mod od_mod (de_ty call_int1 cd_int (by rfl) T.z_int (by decide +kernel) (da_cons (de_op op_fdivW od_fdiv (de_ix (de_var (i := 0)) de_int) de_int) da_nil)) (de_var (i := 1))))))))
abbrev s__law_same : Stmt := topS 40
theorem sc__law_same : FnScope ["actual", "expected", "k"] ["actual", "expected"] (defScope s__law_same) := ⟨rfl, rfl, rfl, by decide +kernel, rfl, by decide +kernel, by decide +kernel⟩
theorem b__law_same (T : Txt K mg) : Binds K T.d__law_same ["actual", "expected"] [] := T.F__law_same.binds fun _ _ _ _ _ _ us hl => match us, hl with | [_, _], _ => rfl
def m__law_same (self : List D → Option D) : SVt :=
    (sSeq (sIf (tOr' (mT (mIsi .tuple (mVar 1))) (mT (mIsi .list (mVar 1)))) (sSeq (sIf (tOr' (mT (m2 neD (mIsi .tuple (mVar 1)) (mIsi .tuple (mVar 0)))) (mT (m2 neD (mIsi .list (mVar 1)) (mIsi .list (mVar 0))))) (sRet (mC (.bl false))) sNil)
    (sSeq (sIf (mT (m2 neD (mB lenD (lCons (mVar 0) lNil)) (mB lenD (lCons (mVar 1) lNil)))) (sRet (mC (.bl false))) sNil)
    (sRet (m2 eqD (mB lenD (lCons (mFr (mLc (iRange1 (mB lenD (lCons (mVar 1) lNil))) (gVar 2) (tNot' (mT (mCall self (lCons (m2 ixD (mVar 0) (mVar 2)) (lCons (m2 ixD (mVar 1) (mVar 2)) lNil))))) (mVar 2) [2])) lNil)) (mC (.int 0)))))) sNil)
    (sSeq (sIf (mT (mIsi .str (mVar 1))) (sRet (eAnd (mIsi .str (mVar 0)) (m2 eqD (mVar 0) (mVar 1)))) sNil)
    (sSeq (sIf (mT (m2 isN (mVar 1) (mC .non))) (sRet (m2 isN (mVar 0) (mC .non))) sNil)
    (sSeq (sIf (tOr' (mT (mIsi .bool (mVar 1))) (mT (mIsi .bool (mVar 0)))) (sRet (eAnd (mIsi .bool (mVar 1)) (eAnd (mIsi .bool (mVar 0)) (m2 eqD (mVar 0) (mVar 1))))) sNil)
    (sRet (eAnd (mIsi .int (mVar 0)) (eAnd (mIsi .int (mVar 1)) (m2 eqD (mVar 0) (mVar 1)))))))))
def den__law_same : Nat → List D → Option D
  | 0 => fun _ => none
  | k + 1 => denOf 3 (m__law_same (den__law_same k))
theorem ok__law_same (T : Txt K mg) : ∀ k : Nat, FnOk P w K mg base CX0 (1 + k) T.f__law_same T.d__law_same ["actual", "expected"] (spD K 2 (den__law_same k))
  | 0 => ⟨fun vs H Q E h => h.1, fun A outer s H args us vs Q E hr e0 hb hv h => by obtain ⟨_, F, ds, d, _, _, e, _⟩ := h; cases e⟩
  | k + 1 => by
    have ih := ok__law_same T k
    exact fnD T.F__law_same sc__law_same 2 rfl fun cdv A outer s H E hr =>
    (dss_cons (ds_if (dt_w (dw_or (dt_val (de_isi .tuple (by rfl) T.z_isinstance (by decide +kernel) (de_var (i := 1)) (by rfl) T.z_tuple (by decide +kernel))) (dw_or1 (dt_val (de_isi .list (by rfl) T.z_isinstance (by decide +kernel) (de_var (i := 1)) (by rfl) T.z_list (by decide +kernel))))))
      (dss_cons (ds_if (dt_w (dw_or (dt_cmp (op_neD hr.units) od_ne (de_isi .tuple (by rfl) T.z_isinstance (by decide +kernel) (de_var (i := 1)) (by rfl) T.z_tuple (by decide +kernel)) (de_isi .tuple (by rfl) T.z_isinstance (by decide +kernel) (de_var (i := 0)) (by rfl) T.z_tuple (by decide +kernel)) (nomark _)) (dw_or1 (dt_cmp (op_neD hr.units) od_ne (de_isi .list (by rfl) T.z_isinstance (by decide +kernel) (de_var (i := 1)) (by rfl) T.z_list (by decide +kernel)) (de_isi .list (by rfl) T.z_isinstance (by decide +kernel) (de_var (i := 0)) (by rfl) T.z_list (by decide +kernel)) (nomark _)))))
      (dss_one (ds_ret de_bl))
      dss_nil)
    (dss_cons (ds_if (dt_cmp (op_neD hr.units) od_ne (de_blt call_len_seq cd_len (by rfl) T.z_len (by decide +kernel) (da_cons (de_var (i := 0)) da_nil)) (de_blt call_len_seq cd_len (by rfl) T.z_len (by decide +kernel) (da_cons (de_var (i := 1)) da_nil)) (nomark _))
      (dss_one (ds_ret de_bl))
      dss_nil)
    (dss_one (ds_ret (de_cmp (op_eqD hr.units) od_eq (de_blt call_len_seq cd_len (by rfl) T.z_len (by decide +kernel) (da_cons (df_de (df_lc (own := [("k", 2)]) rfl sc__law_same.nd (di_range1 (by rfl) T.z_range (de_blt call_len_seq cd_len (by rfl) T.z_len (by decide +kernel) (da_cons (de_var (i := 1)) da_nil))) (blkOk_by (by kernel_rfl)) (fun _ _ _ _ _ => (dg_var (i := 2) sc__law_same.nd rfl (by first | exact .inl rfl | exact .inr rfl))) (fun _ _ _ _ _ => (dps_one (dt_not (dt_val (de_call ih hr (by rfl) T.g__law_same T.F__law_same.kp (b__law_same T) (da_cons (de_ix (de_var (i := 0)) (de_var (i := 2))) (da_cons (de_ix (de_var (i := 1)) (de_var (i := 2))) da_nil)) (len_cons (len_cons len_nil))))))) (fun _ _ _ _ _ => (de_var (i := 2))))) da_nil)) de_int (nomark _))))))
      dss_nil)
    (dss_cons (ds_if (dt_val (de_isi .str (by rfl) T.z_isinstance (by decide +kernel) (de_var (i := 1)) (by rfl) T.z_str (by decide +kernel)))
      (dss_one (ds_ret (de_and (de_isi .str (by rfl) T.z_isinstance (by decide +kernel) (de_var (i := 0)) (by rfl) T.z_str (by decide +kernel)) (de_one (de_cmp (op_eqD hr.units) od_eq (de_var (i := 0)) (de_var (i := 1)) (nomark _))))))
      dss_nil)
    (dss_cons (ds_if (dt_cmp op_isN od_isN (de_var (i := 1)) de_non (nomark _))
      (dss_one (ds_ret (de_cmp op_isN od_isN (de_var (i := 0)) de_non (nomark _))))
      dss_nil)
    (dss_cons (ds_if (dt_w (dw_or (dt_val (de_isi .bool (by rfl) T.z_isinstance (by decide +kernel) (de_var (i := 1)) (by rfl) T.z_bool (by decide +kernel))) (dw_or1 (dt_val (de_isi .bool (by rfl) T.z_isinstance (by decide +kernel) (de_var (i := 0)) (by rfl) T.z_bool (by decide +kernel))))))
      (dss_one (ds_ret (de_and (de_isi .bool (by rfl) T.z_isinstance (by decide +kernel) (de_var (i := 1)) (by rfl) T.z_bool (by decide +kernel)) (de_and (de_isi .bool (by rfl) T.z_isinstance (by decide +kernel) (de_var (i := 0)) (by rfl) T.z_bool (by decide +kernel)) (de_one (de_cmp (op_eqD hr.units) od_eq (de_var (i := 0)) (de_var (i := 1)) (nomark _)))))))
      dss_nil)
    (dss_one (ds_ret (de_and (de_isi .int (by rfl) T.z_isinstance (by decide +kernel) (de_var (i := 0)) (by rfl) T.z_int (by decide +kernel)) (de_and (de_isi .int (by rfl) T.z_isinstance (by decide +kernel) (de_var (i := 1)) (by rfl) T.z_int (by decide +kernel)) (de_one (de_cmp (op_eqD hr.units) od_eq (de_var (i := 0)) (de_var (i := 1)) (nomark _)))))))))))
abbrev s_law : Stmt := topS 41
theorem sc_law : FnScope ["script", "draws", "turn", "letters", "length", "k", "word", "answer", "share", "other", "own", "here", "seen", "after", "ring"] ["script"] (defScope s_law) := ⟨rfl, rfl, rfl, by decide +kernel, rfl, by decide +kernel, by decide +kernel⟩
theorem b_law (T : Txt K mg) : Binds K T.d_law ["script"] [] := T.F_law.binds fun _ _ _ _ _ _ us hl => match us, hl with | [_], _ => rfl
def m_law : SVt :=
    (sSeq (sSetF 1 (mCallF den__law_draws (lCons (mVar 0) lNil)))
    (sSeq (sFor (iRange1 (mC (.int 3))) (gVar 2)
      (sSeq (sSet (gVar 3) (m2 addI (mC (.int 2)) (mCallIO den__law_draw 1 (lCons (mC (.int 2)) lNil))))
    (sSeq (sSet (gVar 4) (m2 addI (mC (.int 2)) (mCallIO den__law_draw 1 (lCons (eIf (mT (m2 eqD (mVar 3) (mC (.int 2)))) (mC (.int 4)) (mC (.int 2))) lNil))))
    (sSeq (sSet (gVar 6) (mB tupD (lCons (mFr (mLc (iRange1 (mVar 4)) (gVar 5) tYes' (mCallIO den__law_draw 1 (lCons (mVar 3) lNil)) [5])) lNil)))
    (sSeq (sSet (gTup' 2 (gCons' (gVar 7) (gCons' (gVar 8) gNil'))) (mCall den_best_answer (lCons (mVar 3) (lCons (mVar 6) lNil))))
    (sSeq (sIf (tOr' (mT (m2 neD (mB lenD (lCons (mVar 7) lNil)) (mVar 4))) (tOr' (mT (m2 eqD (mVar 7) (mVar 6))) (tNot' (mT (mCall (den__law_same 4) (lCons (m2 ixD (mCall den_race (lCons (mCall den_fair (lCons (mVar 3) lNil)) (lCons (mTup (lCons (mVar 7) (lCons (mVar 6) lNil))) lNil))) (mC (.int 0))) (lCons (mTup (lCons (mVar 8) (lCons (m2 ixD (mCall den_odds (lCons (mVar 3) (lCons (mVar 6) (lCons (mVar 7) lNil)))) (mC (.int 0))) lNil))) lNil))))))) (sRet (mC (.bl false))) sNil)
    (sSeq (sSet (gVar 9) (mB tupD (lCons (mFr (mLc (iRange1 (mVar 4)) (gVar 5) tYes' (mCallIO den__law_draw 1 (lCons (mVar 3) lNil)) [5])) lNil)))
    (sSeq (sIf (mT (m2 neD (mVar 9) (mVar 6))) (sSeq (sSet (gVar 10) (m2 ixD (m2 ixD (mCall den_race (lCons (mCall den_fair (lCons (mVar 3) lNil)) (lCons (mTup (lCons (mVar 9) (lCons (mVar 6) lNil))) lNil))) (mC (.int 0))) (mC (.int 0))))
    (sIf (tOr' (mT (mCall den_is_less (lCons (mVar 8) (lCons (mVar 10) lNil)))) (tNot' (mT (mCall (den__law_same 4) (lCons (mFr (mLst (lCons (m2 ixD (mCall den_odds (lCons (mVar 3) (lCons (mVar 9) (lCons (mVar 6) lNil)))) (mC (.int 0))) (lCons (mCall den_is_answer (lCons (mVar 3) (lCons (mVar 6) (lCons (mVar 9) lNil)))) lNil)))) (lCons (mFr (mLst (lCons (mVar 10) (lCons (mCall den_is_less (lCons (mTup (lCons (mC (.int 1)) (lCons (mC (.int 2)) lNil))) (lCons (mVar 10) lNil))) lNil)))) lNil)))))) (sRet (mC (.bl false))) sNil)) sNil)
    (sSeq (sIf (tNot' (mT (mCall (den__law_same 4) (lCons (mCall den_is_answer (lCons (mVar 3) (lCons (mVar 6) (lCons (mVar 7) lNil)))) (lCons (mCall den_is_less (lCons (mTup (lCons (mC (.int 1)) (lCons (mC (.int 2)) lNil))) (lCons (mVar 8) lNil))) lNil))))) (sRet (mC (.bl false))) sNil)
    (sIf (tOr' (mT (m2 notB (mCall den_is_answer (lCons (mVar 3) (lCons (mVar 6) (lCons (m2 catT (mVar 7) (mTup (lCons (mC (.int 0)) lNil))) lNil)))) (mC (.bl false)))) (mT (m2 notB (mCall den_has_part (lCons (m2 catT (mVar 7) (mVar 6)) (lCons (mVar 6) lNil))) (mC (.bl true))))) (sRet (mC (.bl false))) sNil))))))))))
    (sSeq (sSet (gVar 4) (m2 addI (mC (.int 3)) (mCallIO den__law_draw 1 (lCons (mC (.int 3)) lNil))))
    (sSeq (sParVO 11 12 (mB tupD (lCons (mFr (mLc (iRange1 (mVar 4)) (gVar 5) tYes' (mCallIO den__law_draw 1 (lCons (mC (.int 2)) lNil)) [5])) lNil)) (mLst lNil))
    (sSeq (sWhile fuelSeen (mT (m2 notInL (mVar 11) (mVar 12)))
      (sSeq (sExpr (mMeth1 12 appendD (mVar 11)))
    (sSeq (sSet (gTup' 2 (gCons' (gVar 13) (gCons' (gVar 8) gNil'))) (mCall den_best_answer (lCons (mC (.int 2)) (lCons (mVar 11) lNil))))
    (sSeq (sIf (tOr' (tNot' (mT (mCall den_is_less (lCons (mTup (lCons (mC (.int 1)) (lCons (mC (.int 2)) lNil))) (lCons (mVar 8) lNil))))) (mT (m2 notB (mCall den_is_answer (lCons (mC (.int 2)) (lCons (mVar 11) (lCons (mVar 13) lNil)))) (mC (.bl true))))) (sRet (mC (.bl false))) sNil)
    (sSet (gVar 11) (mVar 13))))))
    (sSeq (sSet (gVar 14) (mFr (mSlL (mVar 12) (oSome (mIndex (mVar 12) (mVar 11))) oNo)))
    (sRet (eAnd (m2 (cmpI fun i j => decide (j ≤ i)) (mB lenD (lCons (mVar 14) lNil)) (mC (.int 3))) (eNot (mCall den_is_less (lCons (mCall den_wait (lCons (mCall den_fair (lCons (mC (.int 2)) lNil)) (lCons (mVar 11) lNil))) (lCons (mTup (lCons (m2 shlI (mC (.int 1)) (mVar 4)) (lCons (mC (.int 1)) lNil))) lNil))))))))))))
def den_law : List D → Option D := denOf 15 m_law
theorem ok_law (T : Txt K mg) : FnOk P w K mg base CX0 11 T.f_law T.d_law ["script"] (spD K 1 den_law) := fnD T.F_law sc_law 1 rfl fun cdv A outer s H E hr =>
    (dss_cons (ds_setF (i := 1) sc_law.nd rfl (by first | exact .inl rfl | exact .inr rfl) (df_call (ok__law_draws T) (hr.mono (by decide)) (by rfl) T.g__law_draws T.F__law_draws.kp (b__law_draws T) (da_cons (de_var (i := 0)) da_nil) (len_cons len_nil)))
    (dss_cons (ds_for (ws := [2]) PassesOwn.never rfl (di_range1 (by rfl) T.z_range de_int) (dg_var (i := 2) sc_law.nd rfl (by first | exact .inl rfl | exact .inr rfl))
      (dss_cons (ds_set (i := 3) sc_law.nd rfl (by first | exact .inl rfl | exact .inr rfl) (de_op op_add od_add de_int (de_callIO (i := 1) (ok__law_draw T) (hr.mono (by decide)) (by rfl) T.g__law_draw T.F__law_draw.kp (b__law_draw T) rfl (by first | exact Or.inl rfl | exact Or.inr (Or.inl rfl) | exact Or.inr (Or.inr rfl)) (da_cons de_int da_nil) (len_cons len_nil))))
    (dss_cons (ds_set (i := 4) sc_law.nd rfl (by first | exact .inl rfl | exact .inr rfl) (de_op op_add od_add de_int (de_callIO (i := 1) (ok__law_draw T) (hr.mono (by decide)) (by rfl) T.g__law_draw T.F__law_draw.kp (b__law_draw T) rfl (by first | exact Or.inl rfl | exact Or.inr (Or.inl rfl) | exact Or.inr (Or.inr rfl)) (da_cons (de_if (dt_cmp (op_eqD hr.units) od_eq (de_var (i := 3)) de_int (nomark _)) de_int de_int) da_nil) (len_cons len_nil))))
    (dss_cons (ds_set (i := 6) sc_law.nd rfl (by first | exact .inl rfl | exact .inr rfl) (de_ty call_tuple_of cd_tup (by rfl) T.z_tuple (by decide +kernel) (da_cons (df_de (df_lc (own := [("k", 5)]) rfl sc_law.nd (di_range1 (by rfl) T.z_range (de_var (i := 4))) (blkOk_by (by kernel_rfl)) (fun _ _ _ _ _ => (dg_var (i := 5) sc_law.nd rfl (by first | exact .inl rfl | exact .inr rfl))) (fun _ _ _ _ _ => dps_nil) (fun _ _ _ _ _ => (de_callIO (i := 1) (ok__law_draw T) (hr.mono (by decide)) (by rfl) T.g__law_draw T.F__law_draw.kp (b__law_draw T) rfl (by first | exact Or.inl rfl | exact Or.inr (Or.inl rfl) | exact Or.inr (Or.inr rfl)) (da_cons (de_var (i := 3)) da_nil) (len_cons len_nil))))) da_nil)))
    (dss_cons (ds_asg (ws := [7, 8]) (de_call (ok_best_answer T) (hr.mono (by decide)) (by rfl) T.g_best_answer T.F_best_answer.kp (b_best_answer T) (da_cons (de_var (i := 3)) (da_cons (de_var (i := 6)) da_nil)) (len_cons (len_cons len_nil))) (dg_tup rfl (dgs_cons (dg_var (i := 7) sc_law.nd rfl (by first | exact .inl rfl | exact .inr rfl)) (dgs_cons (dg_var (i := 8) sc_law.nd rfl (by first | exact .inl rfl | exact .inr rfl)) dgs_nil))))
    (dss_cons (ds_if (dt_w (dw_or (dt_cmp (op_neD hr.units) od_ne (de_blt call_len_seq cd_len (by rfl) T.z_len (by decide +kernel) (da_cons (de_var (i := 7)) da_nil)) (de_var (i := 4)) (nomark _)) (dw_or (dt_cmp (op_eqD hr.units) od_eq (de_var (i := 7)) (de_var (i := 6)) (nomark _)) (dw_or1 (dt_not (dt_val (de_call (ok__law_same T 4) (hr.mono (by decide)) (by rfl) T.g__law_same T.F__law_same.kp (b__law_same T) (da_cons (de_ix (de_call (ok_race T) (hr.mono (by decide)) (by rfl) T.g_race T.F_race.kp (b_race T) (da_cons (de_call (ok_fair T) (hr.mono (by decide)) (by rfl) T.g_fair T.F_fair.kp (b_fair T) (da_cons (de_var (i := 3)) da_nil) (len_cons len_nil)) (da_cons (de_tup (da_cons (de_var (i := 7)) (da_cons (de_var (i := 6)) da_nil))) da_nil)) (len_cons (len_cons len_nil))) de_int) (da_cons (de_tup (da_cons (de_var (i := 8)) (da_cons (de_ix (de_call (ok_odds T) (hr.mono (by decide)) (by rfl) T.g_odds T.F_odds.kp (b_odds T) (da_cons (de_var (i := 3)) (da_cons (de_var (i := 6)) (da_cons (de_var (i := 7)) da_nil))) (len_cons (len_cons (len_cons len_nil)))) de_int) da_nil))) da_nil)) (len_cons (len_cons len_nil)))))))))
      (dss_one (ds_ret de_bl))
      dss_nil)
    (dss_cons (ds_set (i := 9) sc_law.nd rfl (by first | exact .inl rfl | exact .inr rfl) (de_ty call_tuple_of cd_tup (by rfl) T.z_tuple (by decide +kernel) (da_cons (df_de (df_lc (own := [("k", 5)]) rfl sc_law.nd (di_range1 (by rfl) T.z_range (de_var (i := 4))) (blkOk_by (by kernel_rfl)) (fun _ _ _ _ _ => (dg_var (i := 5) sc_law.nd rfl (by first | exact .inl rfl | exact .inr rfl))) (fun _ _ _ _ _ => dps_nil) (fun _ _ _ _ _ => (de_callIO (i := 1) (ok__law_draw T) (hr.mono (by decide)) (by rfl) T.g__law_draw T.F__law_draw.kp (b__law_draw T) rfl (by first | exact Or.inl rfl | exact Or.inr (Or.inl rfl) | exact Or.inr (Or.inr rfl)) (da_cons (de_var (i := 3)) da_nil) (len_cons len_nil))))) da_nil)))
    (dss_cons (ds_if (dt_cmp (op_neD hr.units) od_ne (de_var (i := 9)) (de_var (i := 6)) (nomark _))
      (dss_cons (ds_set (i := 10) sc_law.nd rfl (by first | exact .inl rfl | exact .inr rfl) (de_ix (de_ix (de_call (ok_race T) (hr.mono (by decide)) (by rfl) T.g_race T.F_race.kp (b_race T) (da_cons (de_call (ok_fair T) (hr.mono (by decide)) (by rfl) T.g_fair T.F_fair.kp (b_fair T) (da_cons (de_var (i := 3)) da_nil) (len_cons len_nil)) (da_cons (de_tup (da_cons (de_var (i := 9)) (da_cons (de_var (i := 6)) da_nil))) da_nil)) (len_cons (len_cons len_nil))) de_int) de_int))
    (dss_one (ds_if (dt_w (dw_or (dt_val (de_call (ok_is_less T) (hr.mono (by decide)) (by rfl) T.g_is_less T.F_is_less.kp (b_is_less T) (da_cons (de_var (i := 8)) (da_cons (de_var (i := 10)) da_nil)) (len_cons (len_cons len_nil)))) (dw_or1 (dt_not (dt_val (de_call (ok__law_same T 4) (hr.mono (by decide)) (by rfl) T.g__law_same T.F__law_same.kp (b__law_same T) (da_cons (df_de (df_lst (da_cons (de_ix (de_call (ok_odds T) (hr.mono (by decide)) (by rfl) T.g_odds T.F_odds.kp (b_odds T) (da_cons (de_var (i := 3)) (da_cons (de_var (i := 9)) (da_cons (de_var (i := 6)) da_nil))) (len_cons (len_cons (len_cons len_nil)))) de_int) (da_cons (de_call (ok_is_answer T) (hr.mono (by decide)) (by rfl) T.g_is_answer T.F_is_answer.kp (b_is_answer T) (da_cons (de_var (i := 3)) (da_cons (de_var (i := 6)) (da_cons (de_var (i := 9)) da_nil))) (len_cons (len_cons (len_cons len_nil)))) da_nil)))) (da_cons (df_de (df_lst (da_cons (de_var (i := 10)) (da_cons (de_call (ok_is_less T) (hr.mono (by decide)) (by rfl) T.g_is_less T.F_is_less.kp (b_is_less T) (da_cons (de_tup (da_cons de_int (da_cons de_int da_nil))) (da_cons (de_var (i := 10)) da_nil)) (len_cons (len_cons len_nil))) da_nil)))) da_nil)) (len_cons (len_cons len_nil))))))))
      (dss_one (ds_ret de_bl))
      dss_nil)))
      dss_nil)
    (dss_cons (ds_if (dt_not (dt_val (de_call (ok__law_same T 4) (hr.mono (by decide)) (by rfl) T.g__law_same T.F__law_same.kp (b__law_same T) (da_cons (de_call (ok_is_answer T) (hr.mono (by decide)) (by rfl) T.g_is_answer T.F_is_answer.kp (b_is_answer T) (da_cons (de_var (i := 3)) (da_cons (de_var (i := 6)) (da_cons (de_var (i := 7)) da_nil))) (len_cons (len_cons (len_cons len_nil)))) (da_cons (de_call (ok_is_less T) (hr.mono (by decide)) (by rfl) T.g_is_less T.F_is_less.kp (b_is_less T) (da_cons (de_tup (da_cons de_int (da_cons de_int da_nil))) (da_cons (de_var (i := 8)) da_nil)) (len_cons (len_cons len_nil))) da_nil)) (len_cons (len_cons len_nil)))))
      (dss_one (ds_ret de_bl))
      dss_nil)
    (dss_one (ds_if (dt_w (dw_or (dt_cmp op_isnot_bl od_notB (de_call (ok_is_answer T) (hr.mono (by decide)) (by rfl) T.g_is_answer T.F_is_answer.kp (b_is_answer T) (da_cons (de_var (i := 3)) (da_cons (de_var (i := 6)) (da_cons (de_op op_catA od_catT (de_var (i := 7)) (de_tup (da_cons de_int da_nil))) da_nil))) (len_cons (len_cons (len_cons len_nil)))) de_bl (nomark _)) (dw_or1 (dt_cmp op_isnot_bl od_notB (de_call (ok_has_part T) (hr.mono (by decide)) (by rfl) T.g_has_part T.F_has_part.kp (b_has_part T) (da_cons (de_op op_catA od_catT (de_var (i := 7)) (de_var (i := 6))) (da_cons (de_var (i := 6)) da_nil)) (len_cons (len_cons len_nil))) de_bl (nomark _)))))
      (dss_one (ds_ret de_bl))
      dss_nil)))))))))))
    (dss_cons (ds_set (i := 4) sc_law.nd rfl (by first | exact .inl rfl | exact .inr rfl) (de_op op_add od_add de_int (de_callIO (i := 1) (ok__law_draw T) (hr.mono (by decide)) (by rfl) T.g__law_draw T.F__law_draw.kp (b__law_draw T) rfl (by first | exact Or.inl rfl | exact Or.inr (Or.inl rfl) | exact Or.inr (Or.inr rfl)) (da_cons de_int da_nil) (len_cons len_nil))))
    (dss_cons (ds_parVO (i := 11) (j := 12) rfl sc_law.nd rfl rfl (by decide) rfl rfl (de_ty call_tuple_of cd_tup (by rfl) T.z_tuple (by decide +kernel) (da_cons (df_de (df_lc (own := [("k", 5)]) rfl sc_law.nd (di_range1 (by rfl) T.z_range (de_var (i := 4))) (blkOk_by (by kernel_rfl)) (fun _ _ _ _ _ => (dg_var (i := 5) sc_law.nd rfl (by first | exact .inl rfl | exact .inr rfl))) (fun _ _ _ _ _ => dps_nil) (fun _ _ _ _ _ => (de_callIO (i := 1) (ok__law_draw T) (hr.mono (by decide)) (by rfl) T.g__law_draw T.F__law_draw.kp (b__law_draw T) rfl (by first | exact Or.inl rfl | exact Or.inr (Or.inl rfl) | exact Or.inr (Or.inr rfl)) (da_cons de_int da_nil) (len_cons len_nil))))) da_nil)) (df_lst da_nil) (by rfl))
    (dss_cons (ds_while fuelSeen PassesOwn.never (dt_cmp (op_notInD (hu65 hr)) od_notInL (de_var (i := 11)) (de_var (i := 12)) (by with_unfolding_all rfl))
      (dss_cons (ds_expr (de_meth1 (i := 12) PySem.F.slot_list_append PySem.F.type_list_append mt_append md_append rfl (by first | exact Or.inl rfl | exact Or.inr (Or.inl rfl) | exact Or.inr (Or.inr rfl)) (de_var (i := 11))))
    (dss_cons (ds_asg (ws := [13, 8]) (de_call (ok_best_answer T) (hr.mono (by decide)) (by rfl) T.g_best_answer T.F_best_answer.kp (b_best_answer T) (da_cons de_int (da_cons (de_var (i := 11)) da_nil)) (len_cons (len_cons len_nil))) (dg_tup rfl (dgs_cons (dg_var (i := 13) sc_law.nd rfl (by first | exact .inl rfl | exact .inr rfl)) (dgs_cons (dg_var (i := 8) sc_law.nd rfl (by first | exact .inl rfl | exact .inr rfl)) dgs_nil))))
    (dss_cons (ds_if (dt_w (dw_or (dt_not (dt_val (de_call (ok_is_less T) (hr.mono (by decide)) (by rfl) T.g_is_less T.F_is_less.kp (b_is_less T) (da_cons (de_tup (da_cons de_int (da_cons de_int da_nil))) (da_cons (de_var (i := 8)) da_nil)) (len_cons (len_cons len_nil))))) (dw_or1 (dt_cmp op_isnot_bl od_notB (de_call (ok_is_answer T) (hr.mono (by decide)) (by rfl) T.g_is_answer T.F_is_answer.kp (b_is_answer T) (da_cons de_int (da_cons (de_var (i := 11)) (da_cons (de_var (i := 13)) da_nil))) (len_cons (len_cons (len_cons len_nil)))) de_bl (nomark _)))))
      (dss_one (ds_ret de_bl))
      dss_nil)
    (dss_one (ds_set (i := 11) sc_law.nd rfl (by first | exact .inl rfl | exact .inr rfl) (de_var (i := 13))))))))
    (dss_cons (ds_set (i := 14) sc_law.nd rfl (by first | exact .inl rfl | exact .inr rfl) (df_de (df_sl (de_var (i := 12)) (do_some (de_index (hu65 hr) (de_var (i := 12)) (de_var (i := 11)))) do_none)))
    (dss_one (ds_ret (de_and (de_cmp op_ge od_cmp (de_blt call_len_seq cd_len (by rfl) T.z_len (by decide +kernel) (da_cons (de_var (i := 14)) da_nil)) de_int (nomark _)) (de_one (de_not (de_call (ok_is_less T) (hr.mono (by decide)) (by rfl) T.g_is_less T.F_is_less.kp (b_is_less T) (da_cons (de_call (ok_wait T) (hr.mono (by decide)) (by rfl) T.g_wait T.F_wait.kp (b_wait T) (da_cons (de_call (ok_fair T) (hr.mono (by decide)) (by rfl) T.g_fair T.F_fair.kp (b_fair T) (da_cons de_int da_nil) (len_cons len_nil)) (da_cons (de_var (i := 11)) da_nil)) (len_cons (len_cons len_nil))) (da_cons (de_tup (da_cons (de_op op_shl od_shl de_int (de_var (i := 4))) (da_cons de_int da_nil))) da_nil)) (len_cons (len_cons len_nil))))))))))))))
end
theorem rgOk_of {n : Nat} (h : n < 2 ^ 62) : rgOk (n : Int) = true := decide_eq_true (by omega)
theorem mem_rng {lo : Int} {n : Nat} {d : D} (h : d ∈ rngL lo n) : ∃ i : Nat, i < n ∧ d = .int (lo + i) := by
  unfold rngL at h
  obtain ⟨i, hi, e⟩ := List.mem_map.mp h
  exact ⟨i, List.mem_range.mp hi, e.symm⟩
theorem rng_len {lo : Int} {n : Nat} : (rngL lo n).length = n := by unfold rngL; simp
theorem at_of {l : List D} {i : Nat} (h : i < l.length) : atI l (0 + (i : Int)) = some l[i] := by
  unfold atI ixN
  simp only [show (0 : Int) ≤ 0 + i by omega, if_true, show (0 + (i : Int)) < l.length by omega, Option.bind, ob]
  rw [show (0 + (i : Int)).toNat = i by omega]
  exact List.getElem?_eq_getElem h
mutual
/-- same data, of such a depth -/
def smk : Nat → D → Bool
  | 0, _ => false
  | _ + 1, .int _ => true
  | _ + 1, .bl _ => true
  | _ + 1, .str x => PyData.strOk x
  | _ + 1, .non => true
  | k + 1, .tup l => lineOk l.length && smkL k l
  | k + 1, .lst l => lineOk l.length && smkL k l
  | _ + 1, _ => false
def smkL : Nat → List D → Bool
  | _, [] => true
  | k, d :: ds => smk k d && smkL k ds
end
theorem smkL_mem : ∀ {k : Nat} {l : List D}, smkL k l = true → ∀ d ∈ l, smk k d = true
  | k, d :: ds, h, x, hx => by
    rw [smkL, Bool.and_eq_true] at h
    rcases List.mem_cons.mp hx with rfl | hx
    · exact h.1
    · exact smkL_mem h.2 x hx
theorem smkL_of {k : Nat} : ∀ {l : List D}, (∀ d ∈ l, smk k d = true) → smkL k l = true
  | [], _ => by rw [smkL]
  | d :: ds, h => by rw [smkL, h d List.mem_cons_self, smkL_of fun x hx => h x (List.mem_cons_of_mem _ hx)]; rfl
theorem eqs {x : Str} (h : PyData.strOk x = true) : eqD (.str x) (.str x) = some (.bl true) := by
  simp only [eqD, toP, ob]
  rw [PyData.eqv]
  simp [shp, grd, SeqAt.shaped, PyData.canLay0, PyData.depth, h]
theorem rg_line {n : Nat} (h : lineOk n = true) : rgOk (n : Int) = true := by
  have := of_decide_eq_true h
  exact rgOk_of (by omega)
theorem same_refl : ∀ (k : Nat) (x : D), smk k x = true → den__law_same k [x, x] = some (.bl true) := by
  intro k
  induction k with
  | zero => intro x h; cases x <;> (rw [smk] at h; cases h)
  | succ k ih =>
    intro x h
    cases x with
    | int i =>
      show fino (m__law_same (den__law_same k) [some (.v (.int i)), some (.v (.int i)), none]) = _
      unfold m__law_same
      simp -implicitDefEqProofs only [e_bdo, e_bdn, e_bd, e_ob, e_obn, e_grt, e_grf, e_set0, e_setS, e_can0, e_can1, e_can2, e_can3, e_canS, e_own0, e_ownS, e_iol0, e_iolS, e_gt0, e_gtS, e_var, e_rdv, e_rdo, e_c, e_drv, e_drs, e_drov, e_droo, e_tvv, e_tvs, e_tvov, e_tvoo, e_tvl0, e_tvl1, e_drl0, e_drl1, e_m2, e_m2F, e_m1, e_mT, e_tbo, e_mFr, e_nil, e_cons, e_mB, e_mBF, e_tup, e_lst, e_call, e_callF, e_callIO, e_ioo, e_and, e_andt, e_andf, e_or, e_ort, e_orf, e_not, e_noto, e_bot, e_bof, e_if, e_tand, e_tor, e_tnot, e_isi, e_seq, e_seqn, e_seqr, e_seqb, e_seqc, e_seqo, e_snil, e_sno, e_sif, e_ift, e_iff, e_set, e_setF, e_ret, e_expr, e_gvar, e_par, e_par2, e_par3o, e_par3, e_gtup, e_gcons, e_gnil, e_for, e_sq, e_sql, e_sqt, e_r1, e_rgo, e_r2, e_rgo2, e_frn, e_frv, e_fro, e_fr1, e_fr2, e_wi1, e_wi2, e_re1, e_re2, e_lc, e_lcT, e_lctt, e_lctf, e_slL, e_slo, e_oNo, e_oS, e_oso, e_cut1, e_rev, e_rvo, e_ch, e_cht, e_chf, e_six, e_sxo, e_ixs, e_lens, e_lsts, e_lstl, e_lstt, e_pow, e_eqb, e_neb, e_ntb, e_isbb, e_isn, e_non, e_gt2, e_tint_non, e_tint_bl, e_tint_int, e_tint_str, e_tint_tup, e_tint_lst, e_tint_scr, e_tbool_non, e_tbool_bl, e_tbool_int, e_tbool_str, e_tbool_tup, e_tbool_lst, e_tbool_scr, e_tstr_non, e_tstr_bl, e_tstr_int, e_tstr_str, e_tstr_tup, e_tstr_lst, e_tstr_scr, e_ttuple_non, e_ttuple_bl, e_ttuple_int, e_ttuple_str, e_ttuple_tup, e_ttuple_lst, e_ttuple_scr, e_tlist_non, e_tlist_bl, e_tlist_int, e_tlist_str, e_tlist_tup, e_tlist_lst, e_tlist_scr, e_forn, e_fcn, e_fcr, e_fcc, e_fcb, e_revT, e_rvT, e_lr, e_tr, e_rg1, e_rg2, e_rgo1, e_rg2o, e_en, e_enl, e_ent, e_zp, e_zpl, e_zpt, e_isi2, e_catT, e_catL, e_aug, e_ago, e_agn, e_meth1, e_meo, e_apd, e_dc, e_dcT, e_dctt, e_dctf, e_koi, e_kos, e_dg, e_augix, e_aug2, e_sl, e_sl2l, e_sl2t, e_repT, e_repL, e_yes, e_add, e_sub, e_mul, e_fdiv, e_mod, e_cmp, e_neg, e_ixt, e_ixl, e_at0, e_at1, e_at2, e_at3, e_eqi, e_nei, e_abs, e_int, e_intb, e_lenl, e_lent, e_tupl, e_tupt, e_can4, e_gtn, e_fori, e_fio, e_setdc, e_sdco, e_get2, e_isdk, e_geto, e_gtos, e_gton, e_newd, e_disp1, e_parok, e_parov, e_parvo, e_paroo, e_indc, e_nindc, e_max2, e_min2, e_meth0, e_me0, items_nil, items_cons, keyD_i, e_ch3, e_c3t, e_c3f, e_rgd2, e_rgv, e_rgvo, e_gsub, e_sub2, e_index, e_isl, e_lc2, bne_self_eq_false, beq_self_eq_true, Nat.reduceBEq, Nat.reduceEqDiff, List.length_cons, List.length_nil, Bool.and_true, Bool.true_and, lo1, lo2, lo3, lo4, lo5, decide_true, decide_false, fino2_r, fino_r, outo_r, outo_n, List.set_cons_zero, List.set_cons_succ, fino_n, Bool.not_true, Bool.not_false, DL.isNon, decide_true]
    | bl i =>
      show fino (m__law_same (den__law_same k) [some (.v (.bl i)), some (.v (.bl i)), none]) = _
      unfold m__law_same
      simp -implicitDefEqProofs only [e_bdo, e_bdn, e_bd, e_ob, e_obn, e_grt, e_grf, e_set0, e_setS, e_can0, e_can1, e_can2, e_can3, e_canS, e_own0, e_ownS, e_iol0, e_iolS, e_gt0, e_gtS, e_var, e_rdv, e_rdo, e_c, e_drv, e_drs, e_drov, e_droo, e_tvv, e_tvs, e_tvov, e_tvoo, e_tvl0, e_tvl1, e_drl0, e_drl1, e_m2, e_m2F, e_m1, e_mT, e_tbo, e_mFr, e_nil, e_cons, e_mB, e_mBF, e_tup, e_lst, e_call, e_callF, e_callIO, e_ioo, e_and, e_andt, e_andf, e_or, e_ort, e_orf, e_not, e_noto, e_bot, e_bof, e_if, e_tand, e_tor, e_tnot, e_isi, e_seq, e_seqn, e_seqr, e_seqb, e_seqc, e_seqo, e_snil, e_sno, e_sif, e_ift, e_iff, e_set, e_setF, e_ret, e_expr, e_gvar, e_par, e_par2, e_par3o, e_par3, e_gtup, e_gcons, e_gnil, e_for, e_sq, e_sql, e_sqt, e_r1, e_rgo, e_r2, e_rgo2, e_frn, e_frv, e_fro, e_fr1, e_fr2, e_wi1, e_wi2, e_re1, e_re2, e_lc, e_lcT, e_lctt, e_lctf, e_slL, e_slo, e_oNo, e_oS, e_oso, e_cut1, e_rev, e_rvo, e_ch, e_cht, e_chf, e_six, e_sxo, e_ixs, e_lens, e_lsts, e_lstl, e_lstt, e_pow, e_eqb, e_neb, e_ntb, e_isbb, e_isn, e_non, e_gt2, e_tint_non, e_tint_bl, e_tint_int, e_tint_str, e_tint_tup, e_tint_lst, e_tint_scr, e_tbool_non, e_tbool_bl, e_tbool_int, e_tbool_str, e_tbool_tup, e_tbool_lst, e_tbool_scr, e_tstr_non, e_tstr_bl, e_tstr_int, e_tstr_str, e_tstr_tup, e_tstr_lst, e_tstr_scr, e_ttuple_non, e_ttuple_bl, e_ttuple_int, e_ttuple_str, e_ttuple_tup, e_ttuple_lst, e_ttuple_scr, e_tlist_non, e_tlist_bl, e_tlist_int, e_tlist_str, e_tlist_tup, e_tlist_lst, e_tlist_scr, e_forn, e_fcn, e_fcr, e_fcc, e_fcb, e_revT, e_rvT, e_lr, e_tr, e_rg1, e_rg2, e_rgo1, e_rg2o, e_en, e_enl, e_ent, e_zp, e_zpl, e_zpt, e_isi2, e_catT, e_catL, e_aug, e_ago, e_agn, e_meth1, e_meo, e_apd, e_dc, e_dcT, e_dctt, e_dctf, e_koi, e_kos, e_dg, e_augix, e_aug2, e_sl, e_sl2l, e_sl2t, e_repT, e_repL, e_yes, e_add, e_sub, e_mul, e_fdiv, e_mod, e_cmp, e_neg, e_ixt, e_ixl, e_at0, e_at1, e_at2, e_at3, e_eqi, e_nei, e_abs, e_int, e_intb, e_lenl, e_lent, e_tupl, e_tupt, e_can4, e_gtn, e_fori, e_fio, e_setdc, e_sdco, e_get2, e_isdk, e_geto, e_gtos, e_gton, e_newd, e_disp1, e_parok, e_parov, e_parvo, e_paroo, e_indc, e_nindc, e_max2, e_min2, e_meth0, e_me0, items_nil, items_cons, keyD_i, e_ch3, e_c3t, e_c3f, e_rgd2, e_rgv, e_rgvo, e_gsub, e_sub2, e_index, e_isl, e_lc2, bne_self_eq_false, beq_self_eq_true, Nat.reduceBEq, Nat.reduceEqDiff, List.length_cons, List.length_nil, Bool.and_true, Bool.true_and, lo1, lo2, lo3, lo4, lo5, decide_true, decide_false, fino2_r, fino_r, outo_r, outo_n, List.set_cons_zero, List.set_cons_succ, fino_n, Bool.not_true, Bool.not_false, DL.isNon, decide_true]
    | str i =>
      rw [smk] at h
      show fino (m__law_same (den__law_same k) [some (.v (.str i)), some (.v (.str i)), none]) = _
      unfold m__law_same
      simp -implicitDefEqProofs only [e_bdo, e_bdn, e_bd, e_ob, e_obn, e_grt, e_grf, e_set0, e_setS, e_can0, e_can1, e_can2, e_can3, e_canS, e_own0, e_ownS, e_iol0, e_iolS, e_gt0, e_gtS, e_var, e_rdv, e_rdo, e_c, e_drv, e_drs, e_drov, e_droo, e_tvv, e_tvs, e_tvov, e_tvoo, e_tvl0, e_tvl1, e_drl0, e_drl1, e_m2, e_m2F, e_m1, e_mT, e_tbo, e_mFr, e_nil, e_cons, e_mB, e_mBF, e_tup, e_lst, e_call, e_callF, e_callIO, e_ioo, e_and, e_andt, e_andf, e_or, e_ort, e_orf, e_not, e_noto, e_bot, e_bof, e_if, e_tand, e_tor, e_tnot, e_isi, e_seq, e_seqn, e_seqr, e_seqb, e_seqc, e_seqo, e_snil, e_sno, e_sif, e_ift, e_iff, e_set, e_setF, e_ret, e_expr, e_gvar, e_par, e_par2, e_par3o, e_par3, e_gtup, e_gcons, e_gnil, e_for, e_sq, e_sql, e_sqt, e_r1, e_rgo, e_r2, e_rgo2, e_frn, e_frv, e_fro, e_fr1, e_fr2, e_wi1, e_wi2, e_re1, e_re2, e_lc, e_lcT, e_lctt, e_lctf, e_slL, e_slo, e_oNo, e_oS, e_oso, e_cut1, e_rev, e_rvo, e_ch, e_cht, e_chf, e_six, e_sxo, e_ixs, e_lens, e_lsts, e_lstl, e_lstt, e_pow, e_eqb, e_neb, e_ntb, e_isbb, e_isn, e_non, e_gt2, e_tint_non, e_tint_bl, e_tint_int, e_tint_str, e_tint_tup, e_tint_lst, e_tint_scr, e_tbool_non, e_tbool_bl, e_tbool_int, e_tbool_str, e_tbool_tup, e_tbool_lst, e_tbool_scr, e_tstr_non, e_tstr_bl, e_tstr_int, e_tstr_str, e_tstr_tup, e_tstr_lst, e_tstr_scr, e_ttuple_non, e_ttuple_bl, e_ttuple_int, e_ttuple_str, e_ttuple_tup, e_ttuple_lst, e_ttuple_scr, e_tlist_non, e_tlist_bl, e_tlist_int, e_tlist_str, e_tlist_tup, e_tlist_lst, e_tlist_scr, e_forn, e_fcn, e_fcr, e_fcc, e_fcb, e_revT, e_rvT, e_lr, e_tr, e_rg1, e_rg2, e_rgo1, e_rg2o, e_en, e_enl, e_ent, e_zp, e_zpl, e_zpt, e_isi2, e_catT, e_catL, e_aug, e_ago, e_agn, e_meth1, e_meo, e_apd, e_dc, e_dcT, e_dctt, e_dctf, e_koi, e_kos, e_dg, e_augix, e_aug2, e_sl, e_sl2l, e_sl2t, e_repT, e_repL, e_yes, e_add, e_sub, e_mul, e_fdiv, e_mod, e_cmp, e_neg, e_ixt, e_ixl, e_at0, e_at1, e_at2, e_at3, e_eqi, e_nei, e_abs, e_int, e_intb, e_lenl, e_lent, e_tupl, e_tupt, e_can4, e_gtn, e_fori, e_fio, e_setdc, e_sdco, e_get2, e_isdk, e_geto, e_gtos, e_gton, e_newd, e_disp1, e_parok, e_parov, e_parvo, e_paroo, e_indc, e_nindc, e_max2, e_min2, e_meth0, e_me0, items_nil, items_cons, keyD_i, e_ch3, e_c3t, e_c3f, e_rgd2, e_rgv, e_rgvo, e_gsub, e_sub2, e_index, e_isl, e_lc2, bne_self_eq_false, beq_self_eq_true, Nat.reduceBEq, Nat.reduceEqDiff, List.length_cons, List.length_nil, Bool.and_true, Bool.true_and, lo1, lo2, lo3, lo4, lo5, decide_true, decide_false, fino2_r, fino_r, outo_r, outo_n, List.set_cons_zero, List.set_cons_succ, fino_n, Bool.not_true, Bool.not_false, DL.isNon, decide_true, eqs h]
    | non =>
      show fino (m__law_same (den__law_same k) [some (.v (.non)), some (.v (.non)), none]) = _
      unfold m__law_same
      simp -implicitDefEqProofs only [e_bdo, e_bdn, e_bd, e_ob, e_obn, e_grt, e_grf, e_set0, e_setS, e_can0, e_can1, e_can2, e_can3, e_canS, e_own0, e_ownS, e_iol0, e_iolS, e_gt0, e_gtS, e_var, e_rdv, e_rdo, e_c, e_drv, e_drs, e_drov, e_droo, e_tvv, e_tvs, e_tvov, e_tvoo, e_tvl0, e_tvl1, e_drl0, e_drl1, e_m2, e_m2F, e_m1, e_mT, e_tbo, e_mFr, e_nil, e_cons, e_mB, e_mBF, e_tup, e_lst, e_call, e_callF, e_callIO, e_ioo, e_and, e_andt, e_andf, e_or, e_ort, e_orf, e_not, e_noto, e_bot, e_bof, e_if, e_tand, e_tor, e_tnot, e_isi, e_seq, e_seqn, e_seqr, e_seqb, e_seqc, e_seqo, e_snil, e_sno, e_sif, e_ift, e_iff, e_set, e_setF, e_ret, e_expr, e_gvar, e_par, e_par2, e_par3o, e_par3, e_gtup, e_gcons, e_gnil, e_for, e_sq, e_sql, e_sqt, e_r1, e_rgo, e_r2, e_rgo2, e_frn, e_frv, e_fro, e_fr1, e_fr2, e_wi1, e_wi2, e_re1, e_re2, e_lc, e_lcT, e_lctt, e_lctf, e_slL, e_slo, e_oNo, e_oS, e_oso, e_cut1, e_rev, e_rvo, e_ch, e_cht, e_chf, e_six, e_sxo, e_ixs, e_lens, e_lsts, e_lstl, e_lstt, e_pow, e_eqb, e_neb, e_ntb, e_isbb, e_isn, e_non, e_gt2, e_tint_non, e_tint_bl, e_tint_int, e_tint_str, e_tint_tup, e_tint_lst, e_tint_scr, e_tbool_non, e_tbool_bl, e_tbool_int, e_tbool_str, e_tbool_tup, e_tbool_lst, e_tbool_scr, e_tstr_non, e_tstr_bl, e_tstr_int, e_tstr_str, e_tstr_tup, e_tstr_lst, e_tstr_scr, e_ttuple_non, e_ttuple_bl, e_ttuple_int, e_ttuple_str, e_ttuple_tup, e_ttuple_lst, e_ttuple_scr, e_tlist_non, e_tlist_bl, e_tlist_int, e_tlist_str, e_tlist_tup, e_tlist_lst, e_tlist_scr, e_forn, e_fcn, e_fcr, e_fcc, e_fcb, e_revT, e_rvT, e_lr, e_tr, e_rg1, e_rg2, e_rgo1, e_rg2o, e_en, e_enl, e_ent, e_zp, e_zpl, e_zpt, e_isi2, e_catT, e_catL, e_aug, e_ago, e_agn, e_meth1, e_meo, e_apd, e_dc, e_dcT, e_dctt, e_dctf, e_koi, e_kos, e_dg, e_augix, e_aug2, e_sl, e_sl2l, e_sl2t, e_repT, e_repL, e_yes, e_add, e_sub, e_mul, e_fdiv, e_mod, e_cmp, e_neg, e_ixt, e_ixl, e_at0, e_at1, e_at2, e_at3, e_eqi, e_nei, e_abs, e_int, e_intb, e_lenl, e_lent, e_tupl, e_tupt, e_can4, e_gtn, e_fori, e_fio, e_setdc, e_sdco, e_get2, e_isdk, e_geto, e_gtos, e_gton, e_newd, e_disp1, e_parok, e_parov, e_parvo, e_paroo, e_indc, e_nindc, e_max2, e_min2, e_meth0, e_me0, items_nil, items_cons, keyD_i, e_ch3, e_c3t, e_c3f, e_rgd2, e_rgv, e_rgvo, e_gsub, e_sub2, e_index, e_isl, e_lc2, bne_self_eq_false, beq_self_eq_true, Nat.reduceBEq, Nat.reduceEqDiff, List.length_cons, List.length_nil, Bool.and_true, Bool.true_and, lo1, lo2, lo3, lo4, lo5, decide_true, decide_false, fino2_r, fino_r, outo_r, outo_n, List.set_cons_zero, List.set_cons_succ, fino_n, Bool.not_true, Bool.not_false, DL.isNon, decide_true]
    | tup l =>
      rw [smk, Bool.and_eq_true] at h
      have hl := h.1
      have hs := fun i (hi : i < l.length) => ih l[i] (smkL_mem h.2 l[i] (List.getElem_mem hi))
      have e : lcL (gVar 2) (tNot' (mT (mCall (den__law_same k) (lCons (m2 ixD (mVar 0) (mVar 2)) (lCons (m2 ixD (mVar 1) (mVar 2)) lNil))))) (mVar 2) [2] (rngL 0 l.length) [some (.v (.tup l)), some (.v (.tup l)), none] = some ([], [some (.v (.tup l)), some (.v (.tup l)), none]) := lc_none fun d hd => by
        obtain ⟨i, hi, rfl⟩ := mem_rng hd
        simp -implicitDefEqProofs only [e_bdo, e_bdn, e_bd, e_ob, e_obn, e_grt, e_grf, e_set0, e_setS, e_can0, e_can1, e_can2, e_can3, e_canS, e_own0, e_ownS, e_iol0, e_iolS, e_gt0, e_gtS, e_var, e_rdv, e_rdo, e_c, e_drv, e_drs, e_drov, e_droo, e_tvv, e_tvs, e_tvov, e_tvoo, e_tvl0, e_tvl1, e_drl0, e_drl1, e_m2, e_m2F, e_m1, e_mT, e_tbo, e_mFr, e_nil, e_cons, e_mB, e_mBF, e_tup, e_lst, e_call, e_callF, e_callIO, e_ioo, e_and, e_andt, e_andf, e_or, e_ort, e_orf, e_not, e_noto, e_bot, e_bof, e_if, e_tand, e_tor, e_tnot, e_isi, e_seq, e_seqn, e_seqr, e_seqb, e_seqc, e_seqo, e_snil, e_sno, e_sif, e_ift, e_iff, e_set, e_setF, e_ret, e_expr, e_gvar, e_par, e_par2, e_par3o, e_par3, e_gtup, e_gcons, e_gnil, e_for, e_sq, e_sql, e_sqt, e_r1, e_rgo, e_r2, e_rgo2, e_frn, e_frv, e_fro, e_fr1, e_fr2, e_wi1, e_wi2, e_re1, e_re2, e_lc, e_lcT, e_lctt, e_lctf, e_slL, e_slo, e_oNo, e_oS, e_oso, e_cut1, e_rev, e_rvo, e_ch, e_cht, e_chf, e_six, e_sxo, e_ixs, e_lens, e_lsts, e_lstl, e_lstt, e_pow, e_eqb, e_neb, e_ntb, e_isbb, e_isn, e_non, e_gt2, e_tint_non, e_tint_bl, e_tint_int, e_tint_str, e_tint_tup, e_tint_lst, e_tint_scr, e_tbool_non, e_tbool_bl, e_tbool_int, e_tbool_str, e_tbool_tup, e_tbool_lst, e_tbool_scr, e_tstr_non, e_tstr_bl, e_tstr_int, e_tstr_str, e_tstr_tup, e_tstr_lst, e_tstr_scr, e_ttuple_non, e_ttuple_bl, e_ttuple_int, e_ttuple_str, e_ttuple_tup, e_ttuple_lst, e_ttuple_scr, e_tlist_non, e_tlist_bl, e_tlist_int, e_tlist_str, e_tlist_tup, e_tlist_lst, e_tlist_scr, e_forn, e_fcn, e_fcr, e_fcc, e_fcb, e_revT, e_rvT, e_lr, e_tr, e_rg1, e_rg2, e_rgo1, e_rg2o, e_en, e_enl, e_ent, e_zp, e_zpl, e_zpt, e_isi2, e_catT, e_catL, e_aug, e_ago, e_agn, e_meth1, e_meo, e_apd, e_dc, e_dcT, e_dctt, e_dctf, e_koi, e_kos, e_dg, e_augix, e_aug2, e_sl, e_sl2l, e_sl2t, e_repT, e_repL, e_yes, e_add, e_sub, e_mul, e_fdiv, e_mod, e_cmp, e_neg, e_ixt, e_ixl, e_at0, e_at1, e_at2, e_at3, e_eqi, e_nei, e_abs, e_int, e_intb, e_lenl, e_lent, e_tupl, e_tupt, e_can4, e_gtn, e_fori, e_fio, e_setdc, e_sdco, e_get2, e_isdk, e_geto, e_gtos, e_gton, e_newd, e_disp1, e_parok, e_parov, e_parvo, e_paroo, e_indc, e_nindc, e_max2, e_min2, e_meth0, e_me0, items_nil, items_cons, keyD_i, e_ch3, e_c3t, e_c3f, e_rgd2, e_rgv, e_rgvo, e_gsub, e_sub2, e_index, e_isl, e_lc2, bne_self_eq_false, beq_self_eq_true, Nat.reduceBEq, Nat.reduceEqDiff, List.length_cons, List.length_nil, Bool.and_true, Bool.true_and, lo1, lo2, lo3, lo4, lo5, decide_true, decide_false, fino2_r, fino_r, outo_r, outo_n, List.set_cons_zero, List.set_cons_succ, fino_n, Bool.not_true, Bool.not_false, at_of hi, hs i hi]
      show fino (m__law_same (den__law_same k) [some (.v (.tup l)), some (.v (.tup l)), none]) = _
      unfold m__law_same
      simp -implicitDefEqProofs only [e_bdo, e_bdn, e_bd, e_ob, e_obn, e_grt, e_grf, e_set0, e_setS, e_can0, e_can1, e_can2, e_can3, e_canS, e_own0, e_ownS, e_iol0, e_iolS, e_gt0, e_gtS, e_var, e_rdv, e_rdo, e_c, e_drv, e_drs, e_drov, e_droo, e_tvv, e_tvs, e_tvov, e_tvoo, e_tvl0, e_tvl1, e_drl0, e_drl1, e_m2, e_m2F, e_m1, e_mT, e_tbo, e_mFr, e_nil, e_cons, e_mB, e_mBF, e_tup, e_lst, e_call, e_callF, e_callIO, e_ioo, e_and, e_andt, e_andf, e_or, e_ort, e_orf, e_not, e_noto, e_bot, e_bof, e_if, e_tand, e_tor, e_tnot, e_isi, e_seq, e_seqn, e_seqr, e_seqb, e_seqc, e_seqo, e_snil, e_sno, e_sif, e_ift, e_iff, e_set, e_setF, e_ret, e_expr, e_gvar, e_par, e_par2, e_par3o, e_par3, e_gtup, e_gcons, e_gnil, e_for, e_sq, e_sql, e_sqt, e_r1, e_rgo, e_r2, e_rgo2, e_frn, e_frv, e_fro, e_fr1, e_fr2, e_wi1, e_wi2, e_re1, e_re2, e_lc, e_lcT, e_lctt, e_lctf, e_slL, e_slo, e_oNo, e_oS, e_oso, e_cut1, e_rev, e_rvo, e_ch, e_cht, e_chf, e_six, e_sxo, e_ixs, e_lens, e_lsts, e_lstl, e_lstt, e_pow, e_eqb, e_neb, e_ntb, e_isbb, e_isn, e_non, e_gt2, e_tint_non, e_tint_bl, e_tint_int, e_tint_str, e_tint_tup, e_tint_lst, e_tint_scr, e_tbool_non, e_tbool_bl, e_tbool_int, e_tbool_str, e_tbool_tup, e_tbool_lst, e_tbool_scr, e_tstr_non, e_tstr_bl, e_tstr_int, e_tstr_str, e_tstr_tup, e_tstr_lst, e_tstr_scr, e_ttuple_non, e_ttuple_bl, e_ttuple_int, e_ttuple_str, e_ttuple_tup, e_ttuple_lst, e_ttuple_scr, e_tlist_non, e_tlist_bl, e_tlist_int, e_tlist_str, e_tlist_tup, e_tlist_lst, e_tlist_scr, e_forn, e_fcn, e_fcr, e_fcc, e_fcb, e_revT, e_rvT, e_lr, e_tr, e_rg1, e_rg2, e_rgo1, e_rg2o, e_en, e_enl, e_ent, e_zp, e_zpl, e_zpt, e_isi2, e_catT, e_catL, e_aug, e_ago, e_agn, e_meth1, e_meo, e_apd, e_dc, e_dcT, e_dctt, e_dctf, e_koi, e_kos, e_dg, e_augix, e_aug2, e_sl, e_sl2l, e_sl2t, e_repT, e_repL, e_yes, e_add, e_sub, e_mul, e_fdiv, e_mod, e_cmp, e_neg, e_ixt, e_ixl, e_at0, e_at1, e_at2, e_at3, e_eqi, e_nei, e_abs, e_int, e_intb, e_lenl, e_lent, e_tupl, e_tupt, e_can4, e_gtn, e_fori, e_fio, e_setdc, e_sdco, e_get2, e_isdk, e_geto, e_gtos, e_gton, e_newd, e_disp1, e_parok, e_parov, e_parvo, e_paroo, e_indc, e_nindc, e_max2, e_min2, e_meth0, e_me0, items_nil, items_cons, keyD_i, e_ch3, e_c3t, e_c3f, e_rgd2, e_rgv, e_rgvo, e_gsub, e_sub2, e_index, e_isl, e_lc2, bne_self_eq_false, beq_self_eq_true, Nat.reduceBEq, Nat.reduceEqDiff, List.length_cons, List.length_nil, Bool.and_true, Bool.true_and, lo1, lo2, lo3, lo4, lo5, decide_true, decide_false, fino2_r, fino_r, outo_r, outo_n, List.set_cons_zero, List.set_cons_succ, fino_n, Bool.not_true, Bool.not_false, DL.isNon, decide_true, rg_line hl, rng_len, e, hl, Int.toNat_natCast, Int.natCast_zero]
    | lst l =>
      rw [smk, Bool.and_eq_true] at h
      have hl := h.1
      have hs := fun i (hi : i < l.length) => ih l[i] (smkL_mem h.2 l[i] (List.getElem_mem hi))
      have e : lcL (gVar 2) (tNot' (mT (mCall (den__law_same k) (lCons (m2 ixD (mVar 0) (mVar 2)) (lCons (m2 ixD (mVar 1) (mVar 2)) lNil))))) (mVar 2) [2] (rngL 0 l.length) [some (.v (.lst l)), some (.v (.lst l)), none] = some ([], [some (.v (.lst l)), some (.v (.lst l)), none]) := lc_none fun d hd => by
        obtain ⟨i, hi, rfl⟩ := mem_rng hd
        simp -implicitDefEqProofs only [e_bdo, e_bdn, e_bd, e_ob, e_obn, e_grt, e_grf, e_set0, e_setS, e_can0, e_can1, e_can2, e_can3, e_canS, e_own0, e_ownS, e_iol0, e_iolS, e_gt0, e_gtS, e_var, e_rdv, e_rdo, e_c, e_drv, e_drs, e_drov, e_droo, e_tvv, e_tvs, e_tvov, e_tvoo, e_tvl0, e_tvl1, e_drl0, e_drl1, e_m2, e_m2F, e_m1, e_mT, e_tbo, e_mFr, e_nil, e_cons, e_mB, e_mBF, e_tup, e_lst, e_call, e_callF, e_callIO, e_ioo, e_and, e_andt, e_andf, e_or, e_ort, e_orf, e_not, e_noto, e_bot, e_bof, e_if, e_tand, e_tor, e_tnot, e_isi, e_seq, e_seqn, e_seqr, e_seqb, e_seqc, e_seqo, e_snil, e_sno, e_sif, e_ift, e_iff, e_set, e_setF, e_ret, e_expr, e_gvar, e_par, e_par2, e_par3o, e_par3, e_gtup, e_gcons, e_gnil, e_for, e_sq, e_sql, e_sqt, e_r1, e_rgo, e_r2, e_rgo2, e_frn, e_frv, e_fro, e_fr1, e_fr2, e_wi1, e_wi2, e_re1, e_re2, e_lc, e_lcT, e_lctt, e_lctf, e_slL, e_slo, e_oNo, e_oS, e_oso, e_cut1, e_rev, e_rvo, e_ch, e_cht, e_chf, e_six, e_sxo, e_ixs, e_lens, e_lsts, e_lstl, e_lstt, e_pow, e_eqb, e_neb, e_ntb, e_isbb, e_isn, e_non, e_gt2, e_tint_non, e_tint_bl, e_tint_int, e_tint_str, e_tint_tup, e_tint_lst, e_tint_scr, e_tbool_non, e_tbool_bl, e_tbool_int, e_tbool_str, e_tbool_tup, e_tbool_lst, e_tbool_scr, e_tstr_non, e_tstr_bl, e_tstr_int, e_tstr_str, e_tstr_tup, e_tstr_lst, e_tstr_scr, e_ttuple_non, e_ttuple_bl, e_ttuple_int, e_ttuple_str, e_ttuple_tup, e_ttuple_lst, e_ttuple_scr, e_tlist_non, e_tlist_bl, e_tlist_int, e_tlist_str, e_tlist_tup, e_tlist_lst, e_tlist_scr, e_forn, e_fcn, e_fcr, e_fcc, e_fcb, e_revT, e_rvT, e_lr, e_tr, e_rg1, e_rg2, e_rgo1, e_rg2o, e_en, e_enl, e_ent, e_zp, e_zpl, e_zpt, e_isi2, e_catT, e_catL, e_aug, e_ago, e_agn, e_meth1, e_meo, e_apd, e_dc, e_dcT, e_dctt, e_dctf, e_koi, e_kos, e_dg, e_augix, e_aug2, e_sl, e_sl2l, e_sl2t, e_repT, e_repL, e_yes, e_add, e_sub, e_mul, e_fdiv, e_mod, e_cmp, e_neg, e_ixt, e_ixl, e_at0, e_at1, e_at2, e_at3, e_eqi, e_nei, e_abs, e_int, e_intb, e_lenl, e_lent, e_tupl, e_tupt, e_can4, e_gtn, e_fori, e_fio, e_setdc, e_sdco, e_get2, e_isdk, e_geto, e_gtos, e_gton, e_newd, e_disp1, e_parok, e_parov, e_parvo, e_paroo, e_indc, e_nindc, e_max2, e_min2, e_meth0, e_me0, items_nil, items_cons, keyD_i, e_ch3, e_c3t, e_c3f, e_rgd2, e_rgv, e_rgvo, e_gsub, e_sub2, e_index, e_isl, e_lc2, bne_self_eq_false, beq_self_eq_true, Nat.reduceBEq, Nat.reduceEqDiff, List.length_cons, List.length_nil, Bool.and_true, Bool.true_and, lo1, lo2, lo3, lo4, lo5, decide_true, decide_false, fino2_r, fino_r, outo_r, outo_n, List.set_cons_zero, List.set_cons_succ, fino_n, Bool.not_true, Bool.not_false, at_of hi, hs i hi]
      show fino (m__law_same (den__law_same k) [some (.v (.lst l)), some (.v (.lst l)), none]) = _
      unfold m__law_same
      simp -implicitDefEqProofs only [e_bdo, e_bdn, e_bd, e_ob, e_obn, e_grt, e_grf, e_set0, e_setS, e_can0, e_can1, e_can2, e_can3, e_canS, e_own0, e_ownS, e_iol0, e_iolS, e_gt0, e_gtS, e_var, e_rdv, e_rdo, e_c, e_drv, e_drs, e_drov, e_droo, e_tvv, e_tvs, e_tvov, e_tvoo, e_tvl0, e_tvl1, e_drl0, e_drl1, e_m2, e_m2F, e_m1, e_mT, e_tbo, e_mFr, e_nil, e_cons, e_mB, e_mBF, e_tup, e_lst, e_call, e_callF, e_callIO, e_ioo, e_and, e_andt, e_andf, e_or, e_ort, e_orf, e_not, e_noto, e_bot, e_bof, e_if, e_tand, e_tor, e_tnot, e_isi, e_seq, e_seqn, e_seqr, e_seqb, e_seqc, e_seqo, e_snil, e_sno, e_sif, e_ift, e_iff, e_set, e_setF, e_ret, e_expr, e_gvar, e_par, e_par2, e_par3o, e_par3, e_gtup, e_gcons, e_gnil, e_for, e_sq, e_sql, e_sqt, e_r1, e_rgo, e_r2, e_rgo2, e_frn, e_frv, e_fro, e_fr1, e_fr2, e_wi1, e_wi2, e_re1, e_re2, e_lc, e_lcT, e_lctt, e_lctf, e_slL, e_slo, e_oNo, e_oS, e_oso, e_cut1, e_rev, e_rvo, e_ch, e_cht, e_chf, e_six, e_sxo, e_ixs, e_lens, e_lsts, e_lstl, e_lstt, e_pow, e_eqb, e_neb, e_ntb, e_isbb, e_isn, e_non, e_gt2, e_tint_non, e_tint_bl, e_tint_int, e_tint_str, e_tint_tup, e_tint_lst, e_tint_scr, e_tbool_non, e_tbool_bl, e_tbool_int, e_tbool_str, e_tbool_tup, e_tbool_lst, e_tbool_scr, e_tstr_non, e_tstr_bl, e_tstr_int, e_tstr_str, e_tstr_tup, e_tstr_lst, e_tstr_scr, e_ttuple_non, e_ttuple_bl, e_ttuple_int, e_ttuple_str, e_ttuple_tup, e_ttuple_lst, e_ttuple_scr, e_tlist_non, e_tlist_bl, e_tlist_int, e_tlist_str, e_tlist_tup, e_tlist_lst, e_tlist_scr, e_forn, e_fcn, e_fcr, e_fcc, e_fcb, e_revT, e_rvT, e_lr, e_tr, e_rg1, e_rg2, e_rgo1, e_rg2o, e_en, e_enl, e_ent, e_zp, e_zpl, e_zpt, e_isi2, e_catT, e_catL, e_aug, e_ago, e_agn, e_meth1, e_meo, e_apd, e_dc, e_dcT, e_dctt, e_dctf, e_koi, e_kos, e_dg, e_augix, e_aug2, e_sl, e_sl2l, e_sl2t, e_repT, e_repL, e_yes, e_add, e_sub, e_mul, e_fdiv, e_mod, e_cmp, e_neg, e_ixt, e_ixl, e_at0, e_at1, e_at2, e_at3, e_eqi, e_nei, e_abs, e_int, e_intb, e_lenl, e_lent, e_tupl, e_tupt, e_can4, e_gtn, e_fori, e_fio, e_setdc, e_sdco, e_get2, e_isdk, e_geto, e_gtos, e_gton, e_newd, e_disp1, e_parok, e_parov, e_parvo, e_paroo, e_indc, e_nindc, e_max2, e_min2, e_meth0, e_me0, items_nil, items_cons, keyD_i, e_ch3, e_c3t, e_c3f, e_rgd2, e_rgv, e_rgvo, e_gsub, e_sub2, e_index, e_isl, e_lc2, bne_self_eq_false, beq_self_eq_true, Nat.reduceBEq, Nat.reduceEqDiff, List.length_cons, List.length_nil, Bool.and_true, Bool.true_and, lo1, lo2, lo3, lo4, lo5, decide_true, decide_false, fino2_r, fino_r, outo_r, outo_n, List.set_cons_zero, List.set_cons_succ, fino_n, Bool.not_true, Bool.not_false, DL.isNon, decide_true, rg_line hl, rng_len, e, hl, Int.toNat_natCast, Int.natCast_zero]
    | scr l => rw [smk] at h <;> first | cases h | (intros; contradiction)
    | dk l => rw [smk] at h <;> first | cases h | (intros; contradiction)
    | dt l => rw [smk] at h <;> first | cases h | (intros; contradiction)
    | ins l l2 => rw [smk] at h <;> first | cases h | (intros; contradiction)
    | fn l => rw [smk] at h <;> first | cases h | (intros; contradiction)
    | rg l l2 => rw [smk] at h <;> first | cases h | (intros; contradiction)

/-- a drawing state -/
def Drw (d : D) : Prop := ∃ (sc : List Int) (i big seed : Int), d = .lst [.lst (sc.map D.int), .int i, .int big, .int seed] ∧ 0 ≤ i ∧ 0 ≤ seed ∧ seed < 2 ^ 31
theorem at_i {l : List D} {i : Int} (h0 : 0 ≤ i) (h : i < l.length) : atI l i = some (l[i.toNat]'(by omega)) := by
  unfold atI ixN
  simp only [h0, if_true, h, Option.bind, ob]
  exact List.getElem?_eq_getElem (by omega)
theorem ix1 {n : Nat} : ixN (n + 1 + 1) 1 = some 1 := by
  unfold ixN
  simp only [show (0 : Int) ≤ 1 by decide, if_true, show (1 : Int) < ((n + 1 + 1 : Nat) : Int) by omega]
  rfl
theorem ix2 {n : Nat} : ixN (n + 1 + 1 + 1) 2 = some 2 := by
  unfold ixN
  simp only [show (0 : Int) ≤ 2 by decide, if_true, show (2 : Int) < ((n + 1 + 1 + 1 : Nat) : Int) by omega]
  rfl
theorem ix3 {n : Nat} : ixN (n + 1 + 1 + 1 + 1) 3 = some 3 := by
  unfold ixN
  simp only [show (0 : Int) ≤ 3 by decide, if_true, show (3 : Int) < ((n + 1 + 1 + 1 + 1 : Nat) : Int) by omega]
  rfl
theorem map_at {sc : List Int} {i : Int} (h0 : 0 ≤ i) (h : i < (sc.map D.int).length) : atI (sc.map D.int) i = some (.int (sc[i.toNat]'(by simp at h; omega))) := by
  rw [at_i h0 h]; simp
def head_draw : SVt :=
    (sIf (tAnd' (mT (m2 eqD (m2 ixD (mVar 0) (mC (.int 2))) (mC (.int 0)))) (mT (m2 (cmpI fun i j => decide (i < j)) (m2 ixD (mVar 0) (mC (.int 1))) (mB lenD (lCons (m2 ixD (mVar 0) (mC (.int 0))) lNil))))) (sSeq (sSet (gVar 2) (m2 ixD (m2 ixD (mVar 0) (mC (.int 0))) (m2 ixD (mVar 0) (mC (.int 1)))))
    (sSeq (sSetIx 0 (mC (.int 1)) (m2 addI (m2 ixD (mVar 0) (mC (.int 1))) (mC (.int 1))))
    (sSeq (sIf (mT (m2 (cmpI fun i j => decide (j ≤ i)) (mVar 2) (m2 powI (mC (.int 10)) (mC (.int 18))))) (sSetIx 0 (mC (.int 2)) (mVar 2)) sNil)
    (sSetIx 0 (mC (.int 3)) (m2 modI (mB intD (lCons (m2 addI (m2 addI (m2 mulI (m2 ixD (mVar 0) (mC (.int 3))) (mC (.int 48271))) (mVar 2)) (mC (.int 13))) lNil)) (mC (.int 2147483647))))))) sNil)
def tail_draw : SVt :=
    (sSeq (sIf (mT (m2 (cmpI fun i j => decide (j < i)) (m2 ixD (mVar 0) (mC (.int 2))) (mC (.int 0)))) (sSeq (sSet (gVar 3) (m2 modI (mB intD (lCons (m2 ixD (mVar 0) (mC (.int 2))) lNil)) (mVar 1)))
    (sSeq (sSetIx 0 (mC (.int 2)) (m2 fdivI (m2 ixD (mVar 0) (mC (.int 2))) (mVar 1)))
    (sRet (mVar 3)))) sNil)
    (sSeq (sSetIx 0 (mC (.int 3)) (m2 modI (mB intD (lCons (m2 addI (m2 mulI (m2 ixD (mVar 0) (mC (.int 3))) (mC (.int 69621))) (mC (.int 7))) lNil)) (mC (.int 2147483629))))
    (sRet (m2 modI (mB intD (lCons (m2 fdivI (m2 ixD (mVar 0) (mC (.int 3))) (mC (.int 11))) lNil)) (mVar 1)))))
theorem tail_ok {sc : List Int} {i big seed L : Int} {o : Option SV} (hi : 0 ≤ i) (hs0 : 0 ≤ seed) (hs : seed < 2 ^ 31) (h0 : 0 < L) (hL : L < 2 ^ 40) : ∃ v d', outo (tail_draw [some (.o true (.lst [.lst (sc.map D.int), .int i, .int big, .int seed])), some (.v (.int L)), o, none]) = some (.int v, d') ∧ Drw d' ∧ 0 ≤ v ∧ v < L := by
  unfold tail_draw
  by_cases hb : 0 < big
  · refine ⟨big % L, .lst [.lst (sc.map D.int), .int i, .int (big / L), .int seed], ?_, ⟨sc, i, _, seed, rfl, hi, hs0, hs⟩, Int.emod_nonneg _ (by omega), Int.emod_lt_of_pos _ h0⟩
    cases o <;> simp -implicitDefEqProofs only [e_bdo, e_bdn, e_bd, e_ob, e_obn, e_grt, e_grf, e_set0, e_setS, e_can0, e_can1, e_can2, e_can3, e_canS, e_own0, e_ownS, e_iol0, e_iolS, e_gt0, e_gtS, e_var, e_rdv, e_rdo, e_c, e_drv, e_drs, e_drov, e_droo, e_tvv, e_tvs, e_tvov, e_tvoo, e_tvl0, e_tvl1, e_drl0, e_drl1, e_m2, e_m2F, e_m1, e_mT, e_tbo, e_mFr, e_nil, e_cons, e_mB, e_mBF, e_tup, e_lst, e_call, e_callF, e_callIO, e_ioo, e_and, e_andt, e_andf, e_or, e_ort, e_orf, e_not, e_noto, e_bot, e_bof, e_if, e_tand, e_tor, e_tnot, e_isi, e_seq, e_seqn, e_seqr, e_seqb, e_seqc, e_seqo, e_snil, e_sno, e_sif, e_ift, e_iff, e_set, e_setF, e_ret, e_expr, e_gvar, e_par, e_par2, e_par3o, e_par3, e_gtup, e_gcons, e_gnil, e_for, e_sq, e_sql, e_sqt, e_r1, e_rgo, e_r2, e_rgo2, e_frn, e_frv, e_fro, e_fr1, e_fr2, e_wi1, e_wi2, e_re1, e_re2, e_lc, e_lcT, e_lctt, e_lctf, e_slL, e_slo, e_oNo, e_oS, e_oso, e_cut1, e_rev, e_rvo, e_ch, e_cht, e_chf, e_six, e_sxo, e_ixs, e_lens, e_lsts, e_lstl, e_lstt, e_pow, e_eqb, e_neb, e_ntb, e_isbb, e_isn, e_non, e_gt2, e_tint_non, e_tint_bl, e_tint_int, e_tint_str, e_tint_tup, e_tint_lst, e_tint_scr, e_tbool_non, e_tbool_bl, e_tbool_int, e_tbool_str, e_tbool_tup, e_tbool_lst, e_tbool_scr, e_tstr_non, e_tstr_bl, e_tstr_int, e_tstr_str, e_tstr_tup, e_tstr_lst, e_tstr_scr, e_ttuple_non, e_ttuple_bl, e_ttuple_int, e_ttuple_str, e_ttuple_tup, e_ttuple_lst, e_ttuple_scr, e_tlist_non, e_tlist_bl, e_tlist_int, e_tlist_str, e_tlist_tup, e_tlist_lst, e_tlist_scr, e_forn, e_fcn, e_fcr, e_fcc, e_fcb, e_revT, e_rvT, e_lr, e_tr, e_rg1, e_rg2, e_rgo1, e_rg2o, e_en, e_enl, e_ent, e_zp, e_zpl, e_zpt, e_isi2, e_catT, e_catL, e_aug, e_ago, e_agn, e_meth1, e_meo, e_apd, e_dc, e_dcT, e_dctt, e_dctf, e_koi, e_kos, e_dg, e_augix, e_aug2, e_sl, e_sl2l, e_sl2t, e_repT, e_repL, e_yes, e_add, e_sub, e_mul, e_fdiv, e_mod, e_cmp, e_neg, e_ixt, e_ixl, e_at0, e_at1, e_at2, e_at3, e_eqi, e_nei, e_abs, e_int, e_intb, e_lenl, e_lent, e_tupl, e_tupt, e_can4, e_gtn, e_fori, e_fio, e_setdc, e_sdco, e_get2, e_isdk, e_geto, e_gtos, e_gton, e_newd, e_disp1, e_parok, e_parov, e_parvo, e_paroo, e_indc, e_nindc, e_max2, e_min2, e_meth0, e_me0, items_nil, items_cons, keyD_i, e_ch3, e_c3t, e_c3f, e_rgd2, e_rgv, e_rgvo, e_gsub, e_sub2, e_index, e_isl, e_lc2, bne_self_eq_false, beq_self_eq_true, Nat.reduceBEq, Nat.reduceEqDiff, List.length_cons, List.length_nil, Bool.and_true, Bool.true_and, lo1, lo2, lo3, lo4, lo5, decide_true, decide_false, fino2_r, fino_r, outo_r, outo_n, List.set_cons_zero, List.set_cons_succ, fino_n, Bool.not_true, Bool.not_false, ix1, ix2, ix3, decide_eq_true hb, decide_eq_true h0, divOk_of (n := 40) h0 (by omega) (by decide) (by decide)]
  · have m1 : mulOk seed 69621 = true := mulOk_of (m := 40) (n := 40) (by omega) (by decide) (by decide)
    have hs1 : (seed * 69621 + 7) % 2147483629 < 2 ^ 31 := by omega
    have hs2 : 0 ≤ (seed * 69621 + 7) % 2147483629 := by omega
    refine ⟨(seed * 69621 + 7) % 2147483629 / 11 % L, .lst [.lst (sc.map D.int), .int i, .int big, .int ((seed * 69621 + 7) % 2147483629)], ?_, ⟨sc, i, _, _, rfl, hi, hs2, hs1⟩, Int.emod_nonneg _ (by omega), Int.emod_lt_of_pos _ h0⟩
    simp -implicitDefEqProofs only [e_bdo, e_bdn, e_bd, e_ob, e_obn, e_grt, e_grf, e_set0, e_setS, e_can0, e_can1, e_can2, e_can3, e_canS, e_own0, e_ownS, e_iol0, e_iolS, e_gt0, e_gtS, e_var, e_rdv, e_rdo, e_c, e_drv, e_drs, e_drov, e_droo, e_tvv, e_tvs, e_tvov, e_tvoo, e_tvl0, e_tvl1, e_drl0, e_drl1, e_m2, e_m2F, e_m1, e_mT, e_tbo, e_mFr, e_nil, e_cons, e_mB, e_mBF, e_tup, e_lst, e_call, e_callF, e_callIO, e_ioo, e_and, e_andt, e_andf, e_or, e_ort, e_orf, e_not, e_noto, e_bot, e_bof, e_if, e_tand, e_tor, e_tnot, e_isi, e_seq, e_seqn, e_seqr, e_seqb, e_seqc, e_seqo, e_snil, e_sno, e_sif, e_ift, e_iff, e_set, e_setF, e_ret, e_expr, e_gvar, e_par, e_par2, e_par3o, e_par3, e_gtup, e_gcons, e_gnil, e_for, e_sq, e_sql, e_sqt, e_r1, e_rgo, e_r2, e_rgo2, e_frn, e_frv, e_fro, e_fr1, e_fr2, e_wi1, e_wi2, e_re1, e_re2, e_lc, e_lcT, e_lctt, e_lctf, e_slL, e_slo, e_oNo, e_oS, e_oso, e_cut1, e_rev, e_rvo, e_ch, e_cht, e_chf, e_six, e_sxo, e_ixs, e_lens, e_lsts, e_lstl, e_lstt, e_pow, e_eqb, e_neb, e_ntb, e_isbb, e_isn, e_non, e_gt2, e_tint_non, e_tint_bl, e_tint_int, e_tint_str, e_tint_tup, e_tint_lst, e_tint_scr, e_tbool_non, e_tbool_bl, e_tbool_int, e_tbool_str, e_tbool_tup, e_tbool_lst, e_tbool_scr, e_tstr_non, e_tstr_bl, e_tstr_int, e_tstr_str, e_tstr_tup, e_tstr_lst, e_tstr_scr, e_ttuple_non, e_ttuple_bl, e_ttuple_int, e_ttuple_str, e_ttuple_tup, e_ttuple_lst, e_ttuple_scr, e_tlist_non, e_tlist_bl, e_tlist_int, e_tlist_str, e_tlist_tup, e_tlist_lst, e_tlist_scr, e_forn, e_fcn, e_fcr, e_fcc, e_fcb, e_revT, e_rvT, e_lr, e_tr, e_rg1, e_rg2, e_rgo1, e_rg2o, e_en, e_enl, e_ent, e_zp, e_zpl, e_zpt, e_isi2, e_catT, e_catL, e_aug, e_ago, e_agn, e_meth1, e_meo, e_apd, e_dc, e_dcT, e_dctt, e_dctf, e_koi, e_kos, e_dg, e_augix, e_aug2, e_sl, e_sl2l, e_sl2t, e_repT, e_repL, e_yes, e_add, e_sub, e_mul, e_fdiv, e_mod, e_cmp, e_neg, e_ixt, e_ixl, e_at0, e_at1, e_at2, e_at3, e_eqi, e_nei, e_abs, e_int, e_intb, e_lenl, e_lent, e_tupl, e_tupt, e_can4, e_gtn, e_fori, e_fio, e_setdc, e_sdco, e_get2, e_isdk, e_geto, e_gtos, e_gton, e_newd, e_disp1, e_parok, e_parov, e_parvo, e_paroo, e_indc, e_nindc, e_max2, e_min2, e_meth0, e_me0, items_nil, items_cons, keyD_i, e_ch3, e_c3t, e_c3f, e_rgd2, e_rgv, e_rgvo, e_gsub, e_sub2, e_index, e_isl, e_lc2, bne_self_eq_false, beq_self_eq_true, Nat.reduceBEq, Nat.reduceEqDiff, List.length_cons, List.length_nil, Bool.and_true, Bool.true_and, lo1, lo2, lo3, lo4, lo5, decide_true, decide_false, fino2_r, fino_r, outo_r, outo_n, List.set_cons_zero, List.set_cons_succ, fino_n, Bool.not_true, Bool.not_false, ix1, ix2, ix3, decide_eq_false hb, decide_eq_true h0, m1, divOk_of (b := 11) (n := 40) (by decide) (by decide) (by decide) (by decide), show decide ((0 : Int) < 2147483629) = true from rfl]
theorem draw_ok {d : D} {L : Int} (h : Drw d) (h0 : 0 < L) (hL : L < 2 ^ 40) : ∃ v d', den__law_draw d [.int L] = some (.int v, d') ∧ Drw d' ∧ 0 ≤ v ∧ v < L := by
  obtain ⟨sc, i, big, seed, rfl, hi, hs0, hs⟩ := h
  have fin := fun {i big seed : Int} {o : Option SV} hi hs0 hs => tail_ok (sc := sc) (i := i) (big := big) (seed := seed) (o := o) hi hs0 hs h0 hL
  show ∃ v d', outo (m__law_draw [some (.o true (.lst [.lst (sc.map D.int), .int i, .int big, .int seed])), some (.v (.int L)), none, none]) = some (.int v, d') ∧ Drw d' ∧ 0 ≤ v ∧ v < L
  have hm : ∀ ρ, m__law_draw ρ = sSeq head_draw tail_draw ρ := fun ρ => rfl
  rw [hm]
  unfold head_draw
  have m1 : mulOk seed 48271 = true := mulOk_of (m := 40) (n := 40) (by omega) (by decide) (by decide)
  by_cases hb : big = 0
  · by_cases hl : i < (sc.map D.int).length
    · have hx := map_at (sc := sc) hi hl
      have hp : powOk 10 18 = true := by decide
      generalize sc[i.toNat]'(by simp at hl; omega) = x at hx
      have hp2 : (10 : Int) ^ (18 : Int).toNat = 1000000000000000000 := by decide
      have ht1 : (seed * 48271 + x + 13) % 2147483647 < 2 ^ 31 := by omega
      have ht0 : 0 ≤ (seed * 48271 + x + 13) % 2147483647 := by omega
      by_cases hv : (1000000000000000000 : Int) ≤ x
      · simp -implicitDefEqProofs only [e_bdo, e_bdn, e_bd, e_ob, e_obn, e_grt, e_grf, e_set0, e_setS, e_can0, e_can1, e_can2, e_can3, e_canS, e_own0, e_ownS, e_iol0, e_iolS, e_gt0, e_gtS, e_var, e_rdv, e_rdo, e_c, e_drv, e_drs, e_drov, e_droo, e_tvv, e_tvs, e_tvov, e_tvoo, e_tvl0, e_tvl1, e_drl0, e_drl1, e_m2, e_m2F, e_m1, e_mT, e_tbo, e_mFr, e_nil, e_cons, e_mB, e_mBF, e_tup, e_lst, e_call, e_callF, e_callIO, e_ioo, e_and, e_andt, e_andf, e_or, e_ort, e_orf, e_not, e_noto, e_bot, e_bof, e_if, e_tand, e_tor, e_tnot, e_isi, e_seq, e_seqn, e_seqr, e_seqb, e_seqc, e_seqo, e_snil, e_sno, e_sif, e_ift, e_iff, e_set, e_setF, e_ret, e_expr, e_gvar, e_par, e_par2, e_par3o, e_par3, e_gtup, e_gcons, e_gnil, e_for, e_sq, e_sql, e_sqt, e_r1, e_rgo, e_r2, e_rgo2, e_frn, e_frv, e_fro, e_fr1, e_fr2, e_wi1, e_wi2, e_re1, e_re2, e_lc, e_lcT, e_lctt, e_lctf, e_slL, e_slo, e_oNo, e_oS, e_oso, e_cut1, e_rev, e_rvo, e_ch, e_cht, e_chf, e_six, e_sxo, e_ixs, e_lens, e_lsts, e_lstl, e_lstt, e_pow, e_eqb, e_neb, e_ntb, e_isbb, e_isn, e_non, e_gt2, e_tint_non, e_tint_bl, e_tint_int, e_tint_str, e_tint_tup, e_tint_lst, e_tint_scr, e_tbool_non, e_tbool_bl, e_tbool_int, e_tbool_str, e_tbool_tup, e_tbool_lst, e_tbool_scr, e_tstr_non, e_tstr_bl, e_tstr_int, e_tstr_str, e_tstr_tup, e_tstr_lst, e_tstr_scr, e_ttuple_non, e_ttuple_bl, e_ttuple_int, e_ttuple_str, e_ttuple_tup, e_ttuple_lst, e_ttuple_scr, e_tlist_non, e_tlist_bl, e_tlist_int, e_tlist_str, e_tlist_tup, e_tlist_lst, e_tlist_scr, e_forn, e_fcn, e_fcr, e_fcc, e_fcb, e_revT, e_rvT, e_lr, e_tr, e_rg1, e_rg2, e_rgo1, e_rg2o, e_en, e_enl, e_ent, e_zp, e_zpl, e_zpt, e_isi2, e_catT, e_catL, e_aug, e_ago, e_agn, e_meth1, e_meo, e_apd, e_dc, e_dcT, e_dctt, e_dctf, e_koi, e_kos, e_dg, e_augix, e_aug2, e_sl, e_sl2l, e_sl2t, e_repT, e_repL, e_yes, e_add, e_sub, e_mul, e_fdiv, e_mod, e_cmp, e_neg, e_ixt, e_ixl, e_at0, e_at1, e_at2, e_at3, e_eqi, e_nei, e_abs, e_int, e_intb, e_lenl, e_lent, e_tupl, e_tupt, e_can4, e_gtn, e_fori, e_fio, e_setdc, e_sdco, e_get2, e_isdk, e_geto, e_gtos, e_gton, e_newd, e_disp1, e_parok, e_parov, e_parvo, e_paroo, e_indc, e_nindc, e_max2, e_min2, e_meth0, e_me0, items_nil, items_cons, keyD_i, e_ch3, e_c3t, e_c3f, e_rgd2, e_rgv, e_rgvo, e_gsub, e_sub2, e_index, e_isl, e_lc2, bne_self_eq_false, beq_self_eq_true, Nat.reduceBEq, Nat.reduceEqDiff, List.length_cons, List.length_nil, Bool.and_true, Bool.true_and, lo1, lo2, lo3, lo4, lo5, decide_true, decide_false, fino2_r, fino_r, outo_r, outo_n, List.set_cons_zero, List.set_cons_succ, fino_n, Bool.not_true, Bool.not_false, ix1, ix2, ix3, decide_eq_true hb, decide_eq_true hl, hx, hp, hp2, decide_eq_true hv, m1, show decide ((0 : Int) < 2147483647) = true from rfl]
        exact fin (i := i + 1) (big := x) (seed := (seed * 48271 + x + 13) % 2147483647) (o := some (.v (.int x))) (by omega) ht0 ht1
      · simp -implicitDefEqProofs only [e_bdo, e_bdn, e_bd, e_ob, e_obn, e_grt, e_grf, e_set0, e_setS, e_can0, e_can1, e_can2, e_can3, e_canS, e_own0, e_ownS, e_iol0, e_iolS, e_gt0, e_gtS, e_var, e_rdv, e_rdo, e_c, e_drv, e_drs, e_drov, e_droo, e_tvv, e_tvs, e_tvov, e_tvoo, e_tvl0, e_tvl1, e_drl0, e_drl1, e_m2, e_m2F, e_m1, e_mT, e_tbo, e_mFr, e_nil, e_cons, e_mB, e_mBF, e_tup, e_lst, e_call, e_callF, e_callIO, e_ioo, e_and, e_andt, e_andf, e_or, e_ort, e_orf, e_not, e_noto, e_bot, e_bof, e_if, e_tand, e_tor, e_tnot, e_isi, e_seq, e_seqn, e_seqr, e_seqb, e_seqc, e_seqo, e_snil, e_sno, e_sif, e_ift, e_iff, e_set, e_setF, e_ret, e_expr, e_gvar, e_par, e_par2, e_par3o, e_par3, e_gtup, e_gcons, e_gnil, e_for, e_sq, e_sql, e_sqt, e_r1, e_rgo, e_r2, e_rgo2, e_frn, e_frv, e_fro, e_fr1, e_fr2, e_wi1, e_wi2, e_re1, e_re2, e_lc, e_lcT, e_lctt, e_lctf, e_slL, e_slo, e_oNo, e_oS, e_oso, e_cut1, e_rev, e_rvo, e_ch, e_cht, e_chf, e_six, e_sxo, e_ixs, e_lens, e_lsts, e_lstl, e_lstt, e_pow, e_eqb, e_neb, e_ntb, e_isbb, e_isn, e_non, e_gt2, e_tint_non, e_tint_bl, e_tint_int, e_tint_str, e_tint_tup, e_tint_lst, e_tint_scr, e_tbool_non, e_tbool_bl, e_tbool_int, e_tbool_str, e_tbool_tup, e_tbool_lst, e_tbool_scr, e_tstr_non, e_tstr_bl, e_tstr_int, e_tstr_str, e_tstr_tup, e_tstr_lst, e_tstr_scr, e_ttuple_non, e_ttuple_bl, e_ttuple_int, e_ttuple_str, e_ttuple_tup, e_ttuple_lst, e_ttuple_scr, e_tlist_non, e_tlist_bl, e_tlist_int, e_tlist_str, e_tlist_tup, e_tlist_lst, e_tlist_scr, e_forn, e_fcn, e_fcr, e_fcc, e_fcb, e_revT, e_rvT, e_lr, e_tr, e_rg1, e_rg2, e_rgo1, e_rg2o, e_en, e_enl, e_ent, e_zp, e_zpl, e_zpt, e_isi2, e_catT, e_catL, e_aug, e_ago, e_agn, e_meth1, e_meo, e_apd, e_dc, e_dcT, e_dctt, e_dctf, e_koi, e_kos, e_dg, e_augix, e_aug2, e_sl, e_sl2l, e_sl2t, e_repT, e_repL, e_yes, e_add, e_sub, e_mul, e_fdiv, e_mod, e_cmp, e_neg, e_ixt, e_ixl, e_at0, e_at1, e_at2, e_at3, e_eqi, e_nei, e_abs, e_int, e_intb, e_lenl, e_lent, e_tupl, e_tupt, e_can4, e_gtn, e_fori, e_fio, e_setdc, e_sdco, e_get2, e_isdk, e_geto, e_gtos, e_gton, e_newd, e_disp1, e_parok, e_parov, e_parvo, e_paroo, e_indc, e_nindc, e_max2, e_min2, e_meth0, e_me0, items_nil, items_cons, keyD_i, e_ch3, e_c3t, e_c3f, e_rgd2, e_rgv, e_rgvo, e_gsub, e_sub2, e_index, e_isl, e_lc2, bne_self_eq_false, beq_self_eq_true, Nat.reduceBEq, Nat.reduceEqDiff, List.length_cons, List.length_nil, Bool.and_true, Bool.true_and, lo1, lo2, lo3, lo4, lo5, decide_true, decide_false, fino2_r, fino_r, outo_r, outo_n, List.set_cons_zero, List.set_cons_succ, fino_n, Bool.not_true, Bool.not_false, ix1, ix2, ix3, decide_eq_true hb, decide_eq_true hl, hx, hp, hp2, decide_eq_false hv, m1, show decide ((0 : Int) < 2147483647) = true from rfl]
        exact fin (i := i + 1) (big := big) (seed := (seed * 48271 + x + 13) % 2147483647) (o := some (.v (.int x))) (by omega) ht0 ht1
    · simp -implicitDefEqProofs only [e_bdo, e_bdn, e_bd, e_ob, e_obn, e_grt, e_grf, e_set0, e_setS, e_can0, e_can1, e_can2, e_can3, e_canS, e_own0, e_ownS, e_iol0, e_iolS, e_gt0, e_gtS, e_var, e_rdv, e_rdo, e_c, e_drv, e_drs, e_drov, e_droo, e_tvv, e_tvs, e_tvov, e_tvoo, e_tvl0, e_tvl1, e_drl0, e_drl1, e_m2, e_m2F, e_m1, e_mT, e_tbo, e_mFr, e_nil, e_cons, e_mB, e_mBF, e_tup, e_lst, e_call, e_callF, e_callIO, e_ioo, e_and, e_andt, e_andf, e_or, e_ort, e_orf, e_not, e_noto, e_bot, e_bof, e_if, e_tand, e_tor, e_tnot, e_isi, e_seq, e_seqn, e_seqr, e_seqb, e_seqc, e_seqo, e_snil, e_sno, e_sif, e_ift, e_iff, e_set, e_setF, e_ret, e_expr, e_gvar, e_par, e_par2, e_par3o, e_par3, e_gtup, e_gcons, e_gnil, e_for, e_sq, e_sql, e_sqt, e_r1, e_rgo, e_r2, e_rgo2, e_frn, e_frv, e_fro, e_fr1, e_fr2, e_wi1, e_wi2, e_re1, e_re2, e_lc, e_lcT, e_lctt, e_lctf, e_slL, e_slo, e_oNo, e_oS, e_oso, e_cut1, e_rev, e_rvo, e_ch, e_cht, e_chf, e_six, e_sxo, e_ixs, e_lens, e_lsts, e_lstl, e_lstt, e_pow, e_eqb, e_neb, e_ntb, e_isbb, e_isn, e_non, e_gt2, e_tint_non, e_tint_bl, e_tint_int, e_tint_str, e_tint_tup, e_tint_lst, e_tint_scr, e_tbool_non, e_tbool_bl, e_tbool_int, e_tbool_str, e_tbool_tup, e_tbool_lst, e_tbool_scr, e_tstr_non, e_tstr_bl, e_tstr_int, e_tstr_str, e_tstr_tup, e_tstr_lst, e_tstr_scr, e_ttuple_non, e_ttuple_bl, e_ttuple_int, e_ttuple_str, e_ttuple_tup, e_ttuple_lst, e_ttuple_scr, e_tlist_non, e_tlist_bl, e_tlist_int, e_tlist_str, e_tlist_tup, e_tlist_lst, e_tlist_scr, e_forn, e_fcn, e_fcr, e_fcc, e_fcb, e_revT, e_rvT, e_lr, e_tr, e_rg1, e_rg2, e_rgo1, e_rg2o, e_en, e_enl, e_ent, e_zp, e_zpl, e_zpt, e_isi2, e_catT, e_catL, e_aug, e_ago, e_agn, e_meth1, e_meo, e_apd, e_dc, e_dcT, e_dctt, e_dctf, e_koi, e_kos, e_dg, e_augix, e_aug2, e_sl, e_sl2l, e_sl2t, e_repT, e_repL, e_yes, e_add, e_sub, e_mul, e_fdiv, e_mod, e_cmp, e_neg, e_ixt, e_ixl, e_at0, e_at1, e_at2, e_at3, e_eqi, e_nei, e_abs, e_int, e_intb, e_lenl, e_lent, e_tupl, e_tupt, e_can4, e_gtn, e_fori, e_fio, e_setdc, e_sdco, e_get2, e_isdk, e_geto, e_gtos, e_gton, e_newd, e_disp1, e_parok, e_parov, e_parvo, e_paroo, e_indc, e_nindc, e_max2, e_min2, e_meth0, e_me0, items_nil, items_cons, keyD_i, e_ch3, e_c3t, e_c3f, e_rgd2, e_rgv, e_rgvo, e_gsub, e_sub2, e_index, e_isl, e_lc2, bne_self_eq_false, beq_self_eq_true, Nat.reduceBEq, Nat.reduceEqDiff, List.length_cons, List.length_nil, Bool.and_true, Bool.true_and, lo1, lo2, lo3, lo4, lo5, decide_true, decide_false, fino2_r, fino_r, outo_r, outo_n, List.set_cons_zero, List.set_cons_succ, fino_n, Bool.not_true, Bool.not_false, ix1, ix2, ix3, decide_eq_true hb, decide_eq_false hl]
      exact fin (i := i) (big := big) (seed := seed) (o := none) hi hs0 hs
  · simp -implicitDefEqProofs only [e_bdo, e_bdn, e_bd, e_ob, e_obn, e_grt, e_grf, e_set0, e_setS, e_can0, e_can1, e_can2, e_can3, e_canS, e_own0, e_ownS, e_iol0, e_iolS, e_gt0, e_gtS, e_var, e_rdv, e_rdo, e_c, e_drv, e_drs, e_drov, e_droo, e_tvv, e_tvs, e_tvov, e_tvoo, e_tvl0, e_tvl1, e_drl0, e_drl1, e_m2, e_m2F, e_m1, e_mT, e_tbo, e_mFr, e_nil, e_cons, e_mB, e_mBF, e_tup, e_lst, e_call, e_callF, e_callIO, e_ioo, e_and, e_andt, e_andf, e_or, e_ort, e_orf, e_not, e_noto, e_bot, e_bof, e_if, e_tand, e_tor, e_tnot, e_isi, e_seq, e_seqn, e_seqr, e_seqb, e_seqc, e_seqo, e_snil, e_sno, e_sif, e_ift, e_iff, e_set, e_setF, e_ret, e_expr, e_gvar, e_par, e_par2, e_par3o, e_par3, e_gtup, e_gcons, e_gnil, e_for, e_sq, e_sql, e_sqt, e_r1, e_rgo, e_r2, e_rgo2, e_frn, e_frv, e_fro, e_fr1, e_fr2, e_wi1, e_wi2, e_re1, e_re2, e_lc, e_lcT, e_lctt, e_lctf, e_slL, e_slo, e_oNo, e_oS, e_oso, e_cut1, e_rev, e_rvo, e_ch, e_cht, e_chf, e_six, e_sxo, e_ixs, e_lens, e_lsts, e_lstl, e_lstt, e_pow, e_eqb, e_neb, e_ntb, e_isbb, e_isn, e_non, e_gt2, e_tint_non, e_tint_bl, e_tint_int, e_tint_str, e_tint_tup, e_tint_lst, e_tint_scr, e_tbool_non, e_tbool_bl, e_tbool_int, e_tbool_str, e_tbool_tup, e_tbool_lst, e_tbool_scr, e_tstr_non, e_tstr_bl, e_tstr_int, e_tstr_str, e_tstr_tup, e_tstr_lst, e_tstr_scr, e_ttuple_non, e_ttuple_bl, e_ttuple_int, e_ttuple_str, e_ttuple_tup, e_ttuple_lst, e_ttuple_scr, e_tlist_non, e_tlist_bl, e_tlist_int, e_tlist_str, e_tlist_tup, e_tlist_lst, e_tlist_scr, e_forn, e_fcn, e_fcr, e_fcc, e_fcb, e_revT, e_rvT, e_lr, e_tr, e_rg1, e_rg2, e_rgo1, e_rg2o, e_en, e_enl, e_ent, e_zp, e_zpl, e_zpt, e_isi2, e_catT, e_catL, e_aug, e_ago, e_agn, e_meth1, e_meo, e_apd, e_dc, e_dcT, e_dctt, e_dctf, e_koi, e_kos, e_dg, e_augix, e_aug2, e_sl, e_sl2l, e_sl2t, e_repT, e_repL, e_yes, e_add, e_sub, e_mul, e_fdiv, e_mod, e_cmp, e_neg, e_ixt, e_ixl, e_at0, e_at1, e_at2, e_at3, e_eqi, e_nei, e_abs, e_int, e_intb, e_lenl, e_lent, e_tupl, e_tupt, e_can4, e_gtn, e_fori, e_fio, e_setdc, e_sdco, e_get2, e_isdk, e_geto, e_gtos, e_gton, e_newd, e_disp1, e_parok, e_parov, e_parvo, e_paroo, e_indc, e_nindc, e_max2, e_min2, e_meth0, e_me0, items_nil, items_cons, keyD_i, e_ch3, e_c3t, e_c3f, e_rgd2, e_rgv, e_rgvo, e_gsub, e_sub2, e_index, e_isl, e_lc2, bne_self_eq_false, beq_self_eq_true, Nat.reduceBEq, Nat.reduceEqDiff, List.length_cons, List.length_nil, Bool.and_true, Bool.true_and, lo1, lo2, lo3, lo4, lo5, decide_true, decide_false, fino2_r, fino_r, outo_r, outo_n, List.set_cons_zero, List.set_cons_succ, fino_n, Bool.not_true, Bool.not_false, ix1, ix2, ix3, decide_eq_false hb]
    exact fin (i := i) (big := big) (seed := seed) (o := none) hi hs0 hs
def sh (q : Rat) : D := .tup [.int q.num, .int q.den]
theorem gcd_loop : ∀ (n a b : Nat), b < n → whileN (mT (m2 (cmpI fun i j => decide (j < i)) (mVar 1) (mC (.int 0)))) (sPar 0 1 (mVar 1) (m2 modI (mVar 0) (mVar 1))) n [some (.v (.int a)), some (.v (.int b))] = some (.nx [some (.v (.int (Nat.gcd a b))), some (.v (.int 0))])
  | 0, a, b, h => by omega
  | n + 1, a, b, h => by
    by_cases hb : b = 0
    · subst hb
      rw [while_end (ρ1 := [some (.v (.int a)), some (.v (.int (0 : Nat)))]) rfl, Nat.gcd_zero_right]
      rfl
    · have hb' : (0 : Int) < b := by omega
      have ih := gcd_loop n b (a % b) (by have := Nat.mod_lt a (show 0 < b by omega); omega)
      have e : Nat.gcd a b = Nat.gcd b (a % b) := by rw [Nat.gcd_comm, Nat.gcd_rec, Nat.gcd_comm]
      have e2 : ((a : Int) % (b : Int)) = ((a % b : Nat) : Int) := by simp
      rw [while_step (ρ1 := [some (.v (.int a)), some (.v (.int b))]) (ρ2 := [some (.v (.int b)), some (.v (.int (a % b : Nat)))]) ?_ ?_, ih, e]
      · simp -implicitDefEqProofs only [e_bdo, e_bdn, e_bd, e_ob, e_obn, e_grt, e_grf, e_set0, e_setS, e_can0, e_can1, e_can2, e_can3, e_canS, e_own0, e_ownS, e_iol0, e_iolS, e_gt0, e_gtS, e_var, e_rdv, e_rdo, e_c, e_drv, e_drs, e_drov, e_droo, e_tvv, e_tvs, e_tvov, e_tvoo, e_tvl0, e_tvl1, e_drl0, e_drl1, e_m2, e_m2F, e_m1, e_mT, e_tbo, e_mFr, e_nil, e_cons, e_mB, e_mBF, e_tup, e_lst, e_call, e_callF, e_callIO, e_ioo, e_and, e_andt, e_andf, e_or, e_ort, e_orf, e_not, e_noto, e_bot, e_bof, e_if, e_tand, e_tor, e_tnot, e_isi, e_seq, e_seqn, e_seqr, e_seqb, e_seqc, e_seqo, e_snil, e_sno, e_sif, e_ift, e_iff, e_set, e_setF, e_ret, e_expr, e_gvar, e_par, e_par2, e_par3o, e_par3, e_gtup, e_gcons, e_gnil, e_for, e_sq, e_sql, e_sqt, e_r1, e_rgo, e_r2, e_rgo2, e_frn, e_frv, e_fro, e_fr1, e_fr2, e_wi1, e_wi2, e_re1, e_re2, e_lc, e_lcT, e_lctt, e_lctf, e_slL, e_slo, e_oNo, e_oS, e_oso, e_cut1, e_rev, e_rvo, e_ch, e_cht, e_chf, e_six, e_sxo, e_ixs, e_lens, e_lsts, e_lstl, e_lstt, e_pow, e_eqb, e_neb, e_ntb, e_isbb, e_isn, e_non, e_gt2, e_tint_non, e_tint_bl, e_tint_int, e_tint_str, e_tint_tup, e_tint_lst, e_tint_scr, e_tbool_non, e_tbool_bl, e_tbool_int, e_tbool_str, e_tbool_tup, e_tbool_lst, e_tbool_scr, e_tstr_non, e_tstr_bl, e_tstr_int, e_tstr_str, e_tstr_tup, e_tstr_lst, e_tstr_scr, e_ttuple_non, e_ttuple_bl, e_ttuple_int, e_ttuple_str, e_ttuple_tup, e_ttuple_lst, e_ttuple_scr, e_tlist_non, e_tlist_bl, e_tlist_int, e_tlist_str, e_tlist_tup, e_tlist_lst, e_tlist_scr, e_forn, e_fcn, e_fcr, e_fcc, e_fcb, e_revT, e_rvT, e_lr, e_tr, e_rg1, e_rg2, e_rgo1, e_rg2o, e_en, e_enl, e_ent, e_zp, e_zpl, e_zpt, e_isi2, e_catT, e_catL, e_aug, e_ago, e_agn, e_meth1, e_meo, e_apd, e_dc, e_dcT, e_dctt, e_dctf, e_koi, e_kos, e_dg, e_augix, e_aug2, e_sl, e_sl2l, e_sl2t, e_repT, e_repL, e_yes, e_add, e_sub, e_mul, e_fdiv, e_mod, e_cmp, e_neg, e_ixt, e_ixl, e_at0, e_at1, e_at2, e_at3, e_eqi, e_nei, e_abs, e_int, e_intb, e_lenl, e_lent, e_tupl, e_tupt, e_can4, e_gtn, e_fori, e_fio, e_setdc, e_sdco, e_get2, e_isdk, e_geto, e_gtos, e_gton, e_newd, e_disp1, e_parok, e_parov, e_parvo, e_paroo, e_indc, e_nindc, e_max2, e_min2, e_meth0, e_me0, items_nil, items_cons, keyD_i, e_ch3, e_c3t, e_c3f, e_rgd2, e_rgv, e_rgvo, e_gsub, e_sub2, e_index, e_isl, e_lc2, bne_self_eq_false, beq_self_eq_true, Nat.reduceBEq, Nat.reduceEqDiff, List.length_cons, List.length_nil, Bool.and_true, Bool.true_and, lo1, lo2, lo3, lo4, lo5, decide_true, decide_false, fino2_r, fino_r, outo_r, outo_n, List.set_cons_zero, List.set_cons_succ, fino_n, Bool.not_true, Bool.not_false, decide_eq_true hb']
      · simp -implicitDefEqProofs only [e_bdo, e_bdn, e_bd, e_ob, e_obn, e_grt, e_grf, e_set0, e_setS, e_can0, e_can1, e_can2, e_can3, e_canS, e_own0, e_ownS, e_iol0, e_iolS, e_gt0, e_gtS, e_var, e_rdv, e_rdo, e_c, e_drv, e_drs, e_drov, e_droo, e_tvv, e_tvs, e_tvov, e_tvoo, e_tvl0, e_tvl1, e_drl0, e_drl1, e_m2, e_m2F, e_m1, e_mT, e_tbo, e_mFr, e_nil, e_cons, e_mB, e_mBF, e_tup, e_lst, e_call, e_callF, e_callIO, e_ioo, e_and, e_andt, e_andf, e_or, e_ort, e_orf, e_not, e_noto, e_bot, e_bof, e_if, e_tand, e_tor, e_tnot, e_isi, e_seq, e_seqn, e_seqr, e_seqb, e_seqc, e_seqo, e_snil, e_sno, e_sif, e_ift, e_iff, e_set, e_setF, e_ret, e_expr, e_gvar, e_par, e_par2, e_par3o, e_par3, e_gtup, e_gcons, e_gnil, e_for, e_sq, e_sql, e_sqt, e_r1, e_rgo, e_r2, e_rgo2, e_frn, e_frv, e_fro, e_fr1, e_fr2, e_wi1, e_wi2, e_re1, e_re2, e_lc, e_lcT, e_lctt, e_lctf, e_slL, e_slo, e_oNo, e_oS, e_oso, e_cut1, e_rev, e_rvo, e_ch, e_cht, e_chf, e_six, e_sxo, e_ixs, e_lens, e_lsts, e_lstl, e_lstt, e_pow, e_eqb, e_neb, e_ntb, e_isbb, e_isn, e_non, e_gt2, e_tint_non, e_tint_bl, e_tint_int, e_tint_str, e_tint_tup, e_tint_lst, e_tint_scr, e_tbool_non, e_tbool_bl, e_tbool_int, e_tbool_str, e_tbool_tup, e_tbool_lst, e_tbool_scr, e_tstr_non, e_tstr_bl, e_tstr_int, e_tstr_str, e_tstr_tup, e_tstr_lst, e_tstr_scr, e_ttuple_non, e_ttuple_bl, e_ttuple_int, e_ttuple_str, e_ttuple_tup, e_ttuple_lst, e_ttuple_scr, e_tlist_non, e_tlist_bl, e_tlist_int, e_tlist_str, e_tlist_tup, e_tlist_lst, e_tlist_scr, e_forn, e_fcn, e_fcr, e_fcc, e_fcb, e_revT, e_rvT, e_lr, e_tr, e_rg1, e_rg2, e_rgo1, e_rg2o, e_en, e_enl, e_ent, e_zp, e_zpl, e_zpt, e_isi2, e_catT, e_catL, e_aug, e_ago, e_agn, e_meth1, e_meo, e_apd, e_dc, e_dcT, e_dctt, e_dctf, e_koi, e_kos, e_dg, e_augix, e_aug2, e_sl, e_sl2l, e_sl2t, e_repT, e_repL, e_yes, e_add, e_sub, e_mul, e_fdiv, e_mod, e_cmp, e_neg, e_ixt, e_ixl, e_at0, e_at1, e_at2, e_at3, e_eqi, e_nei, e_abs, e_int, e_intb, e_lenl, e_lent, e_tupl, e_tupt, e_can4, e_gtn, e_fori, e_fio, e_setdc, e_sdco, e_get2, e_isdk, e_geto, e_gtos, e_gton, e_newd, e_disp1, e_parok, e_parov, e_parvo, e_paroo, e_indc, e_nindc, e_max2, e_min2, e_meth0, e_me0, items_nil, items_cons, keyD_i, e_ch3, e_c3t, e_c3f, e_rgd2, e_rgv, e_rgvo, e_gsub, e_sub2, e_index, e_isl, e_lc2, bne_self_eq_false, beq_self_eq_true, Nat.reduceBEq, Nat.reduceEqDiff, List.length_cons, List.length_nil, Bool.and_true, Bool.true_and, lo1, lo2, lo3, lo4, lo5, decide_true, decide_false, fino2_r, fino_r, outo_r, outo_n, List.set_cons_zero, List.set_cons_succ, fino_n, Bool.not_true, Bool.not_false, decide_eq_true hb', e2]
        try rfl
theorem den_divisor_eq (a b : Int) : den_divisor [.int a, .int b] = some (.int (Int.gcd a b)) := by
  have h := gcd_loop (b.natAbs + 1) a.natAbs b.natAbs (by omega)
  show fino (m_divisor [some (.v (.int a)), some (.v (.int b))]) = _
  unfold m_divisor
  have e2 : sWhile fuelDiv (mT (m2 (cmpI fun i j => decide (j < i)) (mVar 1) (mC (D.int 0)))) (sPar 0 1 (mVar 1) (m2 modI (mVar 0) (mVar 1))) [some (.v (.int a.natAbs)), some (.v (.int b.natAbs))] = _ := h
  simp -implicitDefEqProofs only [e_bdo, e_bdn, e_bd, e_ob, e_obn, e_grt, e_grf, e_set0, e_setS, e_can0, e_can1, e_can2, e_can3, e_canS, e_own0, e_ownS, e_iol0, e_iolS, e_gt0, e_gtS, e_var, e_rdv, e_rdo, e_c, e_drv, e_drs, e_drov, e_droo, e_tvv, e_tvs, e_tvov, e_tvoo, e_tvl0, e_tvl1, e_drl0, e_drl1, e_m2, e_m2F, e_m1, e_mT, e_tbo, e_mFr, e_nil, e_cons, e_mB, e_mBF, e_tup, e_lst, e_call, e_callF, e_callIO, e_ioo, e_and, e_andt, e_andf, e_or, e_ort, e_orf, e_not, e_noto, e_bot, e_bof, e_if, e_tand, e_tor, e_tnot, e_isi, e_seq, e_seqn, e_seqr, e_seqb, e_seqc, e_seqo, e_snil, e_sno, e_sif, e_ift, e_iff, e_set, e_setF, e_ret, e_expr, e_gvar, e_par, e_par2, e_par3o, e_par3, e_gtup, e_gcons, e_gnil, e_for, e_sq, e_sql, e_sqt, e_r1, e_rgo, e_r2, e_rgo2, e_frn, e_frv, e_fro, e_fr1, e_fr2, e_wi1, e_wi2, e_re1, e_re2, e_lc, e_lcT, e_lctt, e_lctf, e_slL, e_slo, e_oNo, e_oS, e_oso, e_cut1, e_rev, e_rvo, e_ch, e_cht, e_chf, e_six, e_sxo, e_ixs, e_lens, e_lsts, e_lstl, e_lstt, e_pow, e_eqb, e_neb, e_ntb, e_isbb, e_isn, e_non, e_gt2, e_tint_non, e_tint_bl, e_tint_int, e_tint_str, e_tint_tup, e_tint_lst, e_tint_scr, e_tbool_non, e_tbool_bl, e_tbool_int, e_tbool_str, e_tbool_tup, e_tbool_lst, e_tbool_scr, e_tstr_non, e_tstr_bl, e_tstr_int, e_tstr_str, e_tstr_tup, e_tstr_lst, e_tstr_scr, e_ttuple_non, e_ttuple_bl, e_ttuple_int, e_ttuple_str, e_ttuple_tup, e_ttuple_lst, e_ttuple_scr, e_tlist_non, e_tlist_bl, e_tlist_int, e_tlist_str, e_tlist_tup, e_tlist_lst, e_tlist_scr, e_forn, e_fcn, e_fcr, e_fcc, e_fcb, e_revT, e_rvT, e_lr, e_tr, e_rg1, e_rg2, e_rgo1, e_rg2o, e_en, e_enl, e_ent, e_zp, e_zpl, e_zpt, e_isi2, e_catT, e_catL, e_aug, e_ago, e_agn, e_meth1, e_meo, e_apd, e_dc, e_dcT, e_dctt, e_dctf, e_koi, e_kos, e_dg, e_augix, e_aug2, e_sl, e_sl2l, e_sl2t, e_repT, e_repL, e_yes, e_add, e_sub, e_mul, e_fdiv, e_mod, e_cmp, e_neg, e_ixt, e_ixl, e_at0, e_at1, e_at2, e_at3, e_eqi, e_nei, e_abs, e_int, e_intb, e_lenl, e_lent, e_tupl, e_tupt, e_can4, e_gtn, e_fori, e_fio, e_setdc, e_sdco, e_get2, e_isdk, e_geto, e_gtos, e_gton, e_newd, e_disp1, e_parok, e_parov, e_parvo, e_paroo, e_indc, e_nindc, e_max2, e_min2, e_meth0, e_me0, items_nil, items_cons, keyD_i, e_ch3, e_c3t, e_c3f, e_rgd2, e_rgv, e_rgvo, e_gsub, e_sub2, e_index, e_isl, e_lc2, bne_self_eq_false, beq_self_eq_true, Nat.reduceBEq, Nat.reduceEqDiff, List.length_cons, List.length_nil, Bool.and_true, Bool.true_and, lo1, lo2, lo3, lo4, lo5, decide_true, decide_false, fino2_r, fino_r, outo_r, outo_n, List.set_cons_zero, List.set_cons_succ, fino_n, Bool.not_true, Bool.not_false, e2]
  rfl
def Sz (k : Nat) (q : Rat) : Prop := q.num.natAbs < 2 ^ k ∧ q.den < 2 ^ k
theorem Sz.mono {k l : Nat} {q : Rat} (h : Sz k q) (hl : k ≤ l) : Sz l q := ⟨Nat.lt_of_lt_of_le h.1 (Nat.pow_le_pow_right (by decide) hl), Nat.lt_of_lt_of_le h.2 (Nat.pow_le_pow_right (by decide) hl)⟩
theorem numP {a b : Int} (h : 0 < b) : (Rat.divInt a b).num = a / (Int.gcd a b : Int) := by rw [Rat.num_divInt, Int.sign_eq_one_of_pos h, Int.one_mul, Int.gcd_comm]
theorem numN {a b : Int} (h : b < 0) : (Rat.divInt a b).num = -(a / (Int.gcd a b : Int)) := by
  rw [Rat.num_divInt, Int.sign_eq_neg_one_of_neg h, Int.neg_one_mul, Int.gcd_comm, Int.neg_ediv_of_dvd (Int.gcd_dvd_left a b)]
theorem denP {a b : Int} (h : 0 < b) : ((Rat.divInt a b).den : Int) = b / (Int.gcd a b : Int) := by
  rw [Rat.den_divInt, if_neg (by omega), Int.gcd_comm, Int.natCast_ediv, Int.natAbs_of_nonneg (by omega)]
theorem denN {a b : Int} (h : b < 0) : ((Rat.divInt a b).den : Int) = -(b / (Int.gcd a b : Int)) := by
  rw [Rat.den_divInt, if_neg (by omega), Int.gcd_comm, Int.natCast_ediv, Int.ofNat_natAbs_of_nonpos (by omega), Int.neg_ediv_of_dvd (Int.gcd_dvd_right a b)]
theorem den_low_eq {a b : Int} {k : Nat} (hb : b ≠ 0) (sz : b.natAbs < 2 ^ k) (hk : k ≤ 9000 := by omega) (h0 : 0 < k := by omega) : den_low [.int a, .int b] = some (sh (Rat.divInt a b)) := by
  have hg : 0 < Int.gcd a b := Int.gcd_pos_of_ne_zero_right a hb
  have hd : divOk (Int.gcd a b : Int) = true := divOk_of (n := k) (by omega) (by
    have h1 : Int.gcd a b ≤ b.natAbs := Nat.le_of_dvd (by omega) (Int.gcd_dvd_natAbs_right a b)
    show (Int.gcd a b) < _
    omega) hk h0
  show fino (m_low [some (.v (.int a)), some (.v (.int b)), none]) = _
  unfold m_low
  by_cases h : 0 < b
  · simp -implicitDefEqProofs only [e_bdo, e_bdn, e_bd, e_ob, e_obn, e_grt, e_grf, e_set0, e_setS, e_can0, e_can1, e_can2, e_can3, e_canS, e_own0, e_ownS, e_iol0, e_iolS, e_gt0, e_gtS, e_var, e_rdv, e_rdo, e_c, e_drv, e_drs, e_drov, e_droo, e_tvv, e_tvs, e_tvov, e_tvoo, e_tvl0, e_tvl1, e_drl0, e_drl1, e_m2, e_m2F, e_m1, e_mT, e_tbo, e_mFr, e_nil, e_cons, e_mB, e_mBF, e_tup, e_lst, e_call, e_callF, e_callIO, e_ioo, e_and, e_andt, e_andf, e_or, e_ort, e_orf, e_not, e_noto, e_bot, e_bof, e_if, e_tand, e_tor, e_tnot, e_isi, e_seq, e_seqn, e_seqr, e_seqb, e_seqc, e_seqo, e_snil, e_sno, e_sif, e_ift, e_iff, e_set, e_setF, e_ret, e_expr, e_gvar, e_par, e_par2, e_par3o, e_par3, e_gtup, e_gcons, e_gnil, e_for, e_sq, e_sql, e_sqt, e_r1, e_rgo, e_r2, e_rgo2, e_frn, e_frv, e_fro, e_fr1, e_fr2, e_wi1, e_wi2, e_re1, e_re2, e_lc, e_lcT, e_lctt, e_lctf, e_slL, e_slo, e_oNo, e_oS, e_oso, e_cut1, e_rev, e_rvo, e_ch, e_cht, e_chf, e_six, e_sxo, e_ixs, e_lens, e_lsts, e_lstl, e_lstt, e_pow, e_eqb, e_neb, e_ntb, e_isbb, e_isn, e_non, e_gt2, e_tint_non, e_tint_bl, e_tint_int, e_tint_str, e_tint_tup, e_tint_lst, e_tint_scr, e_tbool_non, e_tbool_bl, e_tbool_int, e_tbool_str, e_tbool_tup, e_tbool_lst, e_tbool_scr, e_tstr_non, e_tstr_bl, e_tstr_int, e_tstr_str, e_tstr_tup, e_tstr_lst, e_tstr_scr, e_ttuple_non, e_ttuple_bl, e_ttuple_int, e_ttuple_str, e_ttuple_tup, e_ttuple_lst, e_ttuple_scr, e_tlist_non, e_tlist_bl, e_tlist_int, e_tlist_str, e_tlist_tup, e_tlist_lst, e_tlist_scr, e_forn, e_fcn, e_fcr, e_fcc, e_fcb, e_revT, e_rvT, e_lr, e_tr, e_rg1, e_rg2, e_rgo1, e_rg2o, e_en, e_enl, e_ent, e_zp, e_zpl, e_zpt, e_isi2, e_catT, e_catL, e_aug, e_ago, e_agn, e_meth1, e_meo, e_apd, e_dc, e_dcT, e_dctt, e_dctf, e_koi, e_kos, e_dg, e_augix, e_aug2, e_sl, e_sl2l, e_sl2t, e_repT, e_repL, e_yes, e_add, e_sub, e_mul, e_fdiv, e_mod, e_cmp, e_neg, e_ixt, e_ixl, e_at0, e_at1, e_at2, e_at3, e_eqi, e_nei, e_abs, e_int, e_intb, e_lenl, e_lent, e_tupl, e_tupt, e_can4, e_gtn, e_fori, e_fio, e_setdc, e_sdco, e_get2, e_isdk, e_geto, e_gtos, e_gton, e_newd, e_disp1, e_parok, e_parov, e_parvo, e_paroo, e_indc, e_nindc, e_max2, e_min2, e_meth0, e_me0, items_nil, items_cons, keyD_i, e_ch3, e_c3t, e_c3f, e_rgd2, e_rgv, e_rgvo, e_gsub, e_sub2, e_index, e_isl, e_lc2, bne_self_eq_false, beq_self_eq_true, Nat.reduceBEq, Nat.reduceEqDiff, List.length_cons, List.length_nil, Bool.and_true, Bool.true_and, lo1, lo2, lo3, lo4, lo5, decide_true, decide_false, fino2_r, fino_r, outo_r, outo_n, List.set_cons_zero, List.set_cons_succ, fino_n, Bool.not_true, Bool.not_false, decide_eq_false hb, den_divisor_eq, decide_eq_true h, hd]
    unfold sh
    rw [numP h, denP h]
  · simp -implicitDefEqProofs only [e_bdo, e_bdn, e_bd, e_ob, e_obn, e_grt, e_grf, e_set0, e_setS, e_can0, e_can1, e_can2, e_can3, e_canS, e_own0, e_ownS, e_iol0, e_iolS, e_gt0, e_gtS, e_var, e_rdv, e_rdo, e_c, e_drv, e_drs, e_drov, e_droo, e_tvv, e_tvs, e_tvov, e_tvoo, e_tvl0, e_tvl1, e_drl0, e_drl1, e_m2, e_m2F, e_m1, e_mT, e_tbo, e_mFr, e_nil, e_cons, e_mB, e_mBF, e_tup, e_lst, e_call, e_callF, e_callIO, e_ioo, e_and, e_andt, e_andf, e_or, e_ort, e_orf, e_not, e_noto, e_bot, e_bof, e_if, e_tand, e_tor, e_tnot, e_isi, e_seq, e_seqn, e_seqr, e_seqb, e_seqc, e_seqo, e_snil, e_sno, e_sif, e_ift, e_iff, e_set, e_setF, e_ret, e_expr, e_gvar, e_par, e_par2, e_par3o, e_par3, e_gtup, e_gcons, e_gnil, e_for, e_sq, e_sql, e_sqt, e_r1, e_rgo, e_r2, e_rgo2, e_frn, e_frv, e_fro, e_fr1, e_fr2, e_wi1, e_wi2, e_re1, e_re2, e_lc, e_lcT, e_lctt, e_lctf, e_slL, e_slo, e_oNo, e_oS, e_oso, e_cut1, e_rev, e_rvo, e_ch, e_cht, e_chf, e_six, e_sxo, e_ixs, e_lens, e_lsts, e_lstl, e_lstt, e_pow, e_eqb, e_neb, e_ntb, e_isbb, e_isn, e_non, e_gt2, e_tint_non, e_tint_bl, e_tint_int, e_tint_str, e_tint_tup, e_tint_lst, e_tint_scr, e_tbool_non, e_tbool_bl, e_tbool_int, e_tbool_str, e_tbool_tup, e_tbool_lst, e_tbool_scr, e_tstr_non, e_tstr_bl, e_tstr_int, e_tstr_str, e_tstr_tup, e_tstr_lst, e_tstr_scr, e_ttuple_non, e_ttuple_bl, e_ttuple_int, e_ttuple_str, e_ttuple_tup, e_ttuple_lst, e_ttuple_scr, e_tlist_non, e_tlist_bl, e_tlist_int, e_tlist_str, e_tlist_tup, e_tlist_lst, e_tlist_scr, e_forn, e_fcn, e_fcr, e_fcc, e_fcb, e_revT, e_rvT, e_lr, e_tr, e_rg1, e_rg2, e_rgo1, e_rg2o, e_en, e_enl, e_ent, e_zp, e_zpl, e_zpt, e_isi2, e_catT, e_catL, e_aug, e_ago, e_agn, e_meth1, e_meo, e_apd, e_dc, e_dcT, e_dctt, e_dctf, e_koi, e_kos, e_dg, e_augix, e_aug2, e_sl, e_sl2l, e_sl2t, e_repT, e_repL, e_yes, e_add, e_sub, e_mul, e_fdiv, e_mod, e_cmp, e_neg, e_ixt, e_ixl, e_at0, e_at1, e_at2, e_at3, e_eqi, e_nei, e_abs, e_int, e_intb, e_lenl, e_lent, e_tupl, e_tupt, e_can4, e_gtn, e_fori, e_fio, e_setdc, e_sdco, e_get2, e_isdk, e_geto, e_gtos, e_gton, e_newd, e_disp1, e_parok, e_parov, e_parvo, e_paroo, e_indc, e_nindc, e_max2, e_min2, e_meth0, e_me0, items_nil, items_cons, keyD_i, e_ch3, e_c3t, e_c3f, e_rgd2, e_rgv, e_rgvo, e_gsub, e_sub2, e_index, e_isl, e_lc2, bne_self_eq_false, beq_self_eq_true, Nat.reduceBEq, Nat.reduceEqDiff, List.length_cons, List.length_nil, Bool.and_true, Bool.true_and, lo1, lo2, lo3, lo4, lo5, decide_true, decide_false, fino2_r, fino_r, outo_r, outo_n, List.set_cons_zero, List.set_cons_succ, fino_n, Bool.not_true, Bool.not_false, decide_eq_false hb, den_divisor_eq, decide_eq_false h, hd]
    unfold sh
    rw [numN (by omega), denN (by omega)]
theorem Sz.div {a b : Int} {k : Nat} (hb : b ≠ 0) (ha : a.natAbs < 2 ^ k) (hb2 : b.natAbs < 2 ^ k) : Sz k (Rat.divInt a b) := by
  constructor
  · refine Nat.lt_of_le_of_lt ?_ ha
    rw [Rat.num_divInt, Int.gcd_comm]
    have h1 : ((b.sign * a).natAbs) = a.natAbs := by rw [Int.natAbs_mul, Int.natAbs_sign_of_ne_zero hb, Nat.one_mul]
    rw [Int.natAbs_ediv_of_dvd (Int.dvd_trans (Int.gcd_dvd_left a b) (Int.dvd_mul_left _ _)), h1]
    exact Nat.div_le_self _ _
  · refine Nat.lt_of_le_of_lt ?_ hb2
    rw [Rat.den_divInt, if_neg hb]
    exact Nat.div_le_self _ _
theorem bm {a b : Int} {j k : Nat} (ha : a.natAbs < 2 ^ j) (hb : b.natAbs < 2 ^ k) : (a * b).natAbs < 2 ^ (j + k) := by
  rw [Int.natAbs_mul, Nat.pow_add]
  exact Nat.mul_lt_mul'' ha hb
theorem ba {a b : Int} {k : Nat} (ha : a.natAbs < 2 ^ k) (hb : b.natAbs < 2 ^ k) : (a + b).natAbs < 2 ^ (k + 1) := by rw [Nat.pow_succ]; omega
theorem bs {a b : Int} {k : Nat} (ha : a.natAbs < 2 ^ k) (hb : b.natAbs < 2 ^ k) : (a - b).natAbs < 2 ^ (k + 1) := by rw [Nat.pow_succ]; omega
theorem bup {a : Int} {k l : Nat} (ha : a.natAbs < 2 ^ k) (h : k ≤ l) : a.natAbs < 2 ^ l := Nat.lt_of_lt_of_le ha (Nat.pow_le_pow_right (by decide) h)
theorem Sz.d0 {k : Nat} {q : Rat} (h : Sz k q) : (q.den : Int).natAbs < 2 ^ k := h.2
theorem dn (q : Rat) : (q.den : Int) ≠ 0 := by have := q.den_nz; omega
theorem dm (p q : Rat) : (p.den : Int) * (q.den : Int) ≠ 0 := Int.mul_ne_zero (dn p) (dn q)
theorem ct {a b : Int} {k : Nat} (h : a.natAbs < 2 ^ k) (h2 : b.natAbs < 2 ^ k) (hk : k ≤ 400000) : mulOk a b = true := mulOk_of h h2 (by omega)
theorem plus_eq {p q : Rat} {j k : Nat} (hp : Sz j p) (hq : Sz k q) (hk : j + k ≤ 8999 := by omega) : den_plus [sh p, sh q] = some (sh (p + q)) ∧ Sz (j + k + 1) (p + q) := by
  have e : p + q = Rat.divInt (p.num * q.den + q.num * p.den) (p.den * q.den) := by rw [← Rat.divInt_add_divInt _ _ (dn p) (dn q), Rat.num_divInt_den, Rat.num_divInt_den]
  have s1 : (p.num * (q.den : Int)).natAbs < 2 ^ (j + k) := bm hp.1 hq.d0
  have s2 : (q.num * (p.den : Int)).natAbs < 2 ^ (j + k) := by rw [Nat.add_comm]; exact bm hq.1 hp.d0
  have s3 : ((p.den : Int) * (q.den : Int)).natAbs < 2 ^ (j + k) := bm hp.d0 hq.d0
  refine ⟨?_, by rw [e]; exact Sz.div (dm p q) (ba s1 s2) (bup s3 (by omega))⟩
  show fino (m_plus [some (.v (.tup [.int p.num, .int p.den])), some (.v (.tup [.int q.num, .int q.den]))]) = _
  unfold m_plus
  simp -implicitDefEqProofs only [e_bdo, e_bdn, e_bd, e_ob, e_obn, e_grt, e_grf, e_set0, e_setS, e_can0, e_can1, e_can2, e_can3, e_canS, e_own0, e_ownS, e_iol0, e_iolS, e_gt0, e_gtS, e_var, e_rdv, e_rdo, e_c, e_drv, e_drs, e_drov, e_droo, e_tvv, e_tvs, e_tvov, e_tvoo, e_tvl0, e_tvl1, e_drl0, e_drl1, e_m2, e_m2F, e_m1, e_mT, e_tbo, e_mFr, e_nil, e_cons, e_mB, e_mBF, e_tup, e_lst, e_call, e_callF, e_callIO, e_ioo, e_and, e_andt, e_andf, e_or, e_ort, e_orf, e_not, e_noto, e_bot, e_bof, e_if, e_tand, e_tor, e_tnot, e_isi, e_seq, e_seqn, e_seqr, e_seqb, e_seqc, e_seqo, e_snil, e_sno, e_sif, e_ift, e_iff, e_set, e_setF, e_ret, e_expr, e_gvar, e_par, e_par2, e_par3o, e_par3, e_gtup, e_gcons, e_gnil, e_for, e_sq, e_sql, e_sqt, e_r1, e_rgo, e_r2, e_rgo2, e_frn, e_frv, e_fro, e_fr1, e_fr2, e_wi1, e_wi2, e_re1, e_re2, e_lc, e_lcT, e_lctt, e_lctf, e_slL, e_slo, e_oNo, e_oS, e_oso, e_cut1, e_rev, e_rvo, e_ch, e_cht, e_chf, e_six, e_sxo, e_ixs, e_lens, e_lsts, e_lstl, e_lstt, e_pow, e_eqb, e_neb, e_ntb, e_isbb, e_isn, e_non, e_gt2, e_tint_non, e_tint_bl, e_tint_int, e_tint_str, e_tint_tup, e_tint_lst, e_tint_scr, e_tbool_non, e_tbool_bl, e_tbool_int, e_tbool_str, e_tbool_tup, e_tbool_lst, e_tbool_scr, e_tstr_non, e_tstr_bl, e_tstr_int, e_tstr_str, e_tstr_tup, e_tstr_lst, e_tstr_scr, e_ttuple_non, e_ttuple_bl, e_ttuple_int, e_ttuple_str, e_ttuple_tup, e_ttuple_lst, e_ttuple_scr, e_tlist_non, e_tlist_bl, e_tlist_int, e_tlist_str, e_tlist_tup, e_tlist_lst, e_tlist_scr, e_forn, e_fcn, e_fcr, e_fcc, e_fcb, e_revT, e_rvT, e_lr, e_tr, e_rg1, e_rg2, e_rgo1, e_rg2o, e_en, e_enl, e_ent, e_zp, e_zpl, e_zpt, e_isi2, e_catT, e_catL, e_aug, e_ago, e_agn, e_meth1, e_meo, e_apd, e_dc, e_dcT, e_dctt, e_dctf, e_koi, e_kos, e_dg, e_augix, e_aug2, e_sl, e_sl2l, e_sl2t, e_repT, e_repL, e_yes, e_add, e_sub, e_mul, e_fdiv, e_mod, e_cmp, e_neg, e_ixt, e_ixl, e_at0, e_at1, e_at2, e_at3, e_eqi, e_nei, e_abs, e_int, e_intb, e_lenl, e_lent, e_tupl, e_tupt, e_can4, e_gtn, e_fori, e_fio, e_setdc, e_sdco, e_get2, e_isdk, e_geto, e_gtos, e_gton, e_newd, e_disp1, e_parok, e_parov, e_parvo, e_paroo, e_indc, e_nindc, e_max2, e_min2, e_meth0, e_me0, items_nil, items_cons, keyD_i, e_ch3, e_c3t, e_c3f, e_rgd2, e_rgv, e_rgvo, e_gsub, e_sub2, e_index, e_isl, e_lc2, bne_self_eq_false, beq_self_eq_true, Nat.reduceBEq, Nat.reduceEqDiff, List.length_cons, List.length_nil, Bool.and_true, Bool.true_and, lo1, lo2, lo3, lo4, lo5, decide_true, decide_false, fino2_r, fino_r, outo_r, outo_n, List.set_cons_zero, List.set_cons_succ, fino_n, Bool.not_true, Bool.not_false, mulOk_of hp.1 hq.d0 (by omega), mulOk_of hq.1 hp.d0 (by omega), mulOk_of hp.d0 hq.d0 (by omega), den_low_eq (dm p q) (bup s3 (Nat.le_succ _))]
  rw [e]
theorem less_eq {p q : Rat} {j k : Nat} (hp : Sz j p) (hq : Sz k q) (hk : j + k ≤ 8999 := by omega) : den_less [sh p, sh q] = some (sh (p - q)) ∧ Sz (j + k + 1) (p - q) := by
  have e : p - q = Rat.divInt (p.num * q.den - q.num * p.den) (p.den * q.den) := by rw [← Rat.divInt_sub_divInt _ _ (dn p) (dn q), Rat.num_divInt_den, Rat.num_divInt_den]
  have s1 : (p.num * (q.den : Int)).natAbs < 2 ^ (j + k) := bm hp.1 hq.d0
  have s2 : (q.num * (p.den : Int)).natAbs < 2 ^ (j + k) := by rw [Nat.add_comm]; exact bm hq.1 hp.d0
  have s3 : ((p.den : Int) * (q.den : Int)).natAbs < 2 ^ (j + k) := bm hp.d0 hq.d0
  refine ⟨?_, by rw [e]; exact Sz.div (dm p q) (bs s1 s2) (bup s3 (by omega))⟩
  show fino (m_less [some (.v (.tup [.int p.num, .int p.den])), some (.v (.tup [.int q.num, .int q.den]))]) = _
  unfold m_less
  simp -implicitDefEqProofs only [e_bdo, e_bdn, e_bd, e_ob, e_obn, e_grt, e_grf, e_set0, e_setS, e_can0, e_can1, e_can2, e_can3, e_canS, e_own0, e_ownS, e_iol0, e_iolS, e_gt0, e_gtS, e_var, e_rdv, e_rdo, e_c, e_drv, e_drs, e_drov, e_droo, e_tvv, e_tvs, e_tvov, e_tvoo, e_tvl0, e_tvl1, e_drl0, e_drl1, e_m2, e_m2F, e_m1, e_mT, e_tbo, e_mFr, e_nil, e_cons, e_mB, e_mBF, e_tup, e_lst, e_call, e_callF, e_callIO, e_ioo, e_and, e_andt, e_andf, e_or, e_ort, e_orf, e_not, e_noto, e_bot, e_bof, e_if, e_tand, e_tor, e_tnot, e_isi, e_seq, e_seqn, e_seqr, e_seqb, e_seqc, e_seqo, e_snil, e_sno, e_sif, e_ift, e_iff, e_set, e_setF, e_ret, e_expr, e_gvar, e_par, e_par2, e_par3o, e_par3, e_gtup, e_gcons, e_gnil, e_for, e_sq, e_sql, e_sqt, e_r1, e_rgo, e_r2, e_rgo2, e_frn, e_frv, e_fro, e_fr1, e_fr2, e_wi1, e_wi2, e_re1, e_re2, e_lc, e_lcT, e_lctt, e_lctf, e_slL, e_slo, e_oNo, e_oS, e_oso, e_cut1, e_rev, e_rvo, e_ch, e_cht, e_chf, e_six, e_sxo, e_ixs, e_lens, e_lsts, e_lstl, e_lstt, e_pow, e_eqb, e_neb, e_ntb, e_isbb, e_isn, e_non, e_gt2, e_tint_non, e_tint_bl, e_tint_int, e_tint_str, e_tint_tup, e_tint_lst, e_tint_scr, e_tbool_non, e_tbool_bl, e_tbool_int, e_tbool_str, e_tbool_tup, e_tbool_lst, e_tbool_scr, e_tstr_non, e_tstr_bl, e_tstr_int, e_tstr_str, e_tstr_tup, e_tstr_lst, e_tstr_scr, e_ttuple_non, e_ttuple_bl, e_ttuple_int, e_ttuple_str, e_ttuple_tup, e_ttuple_lst, e_ttuple_scr, e_tlist_non, e_tlist_bl, e_tlist_int, e_tlist_str, e_tlist_tup, e_tlist_lst, e_tlist_scr, e_forn, e_fcn, e_fcr, e_fcc, e_fcb, e_revT, e_rvT, e_lr, e_tr, e_rg1, e_rg2, e_rgo1, e_rg2o, e_en, e_enl, e_ent, e_zp, e_zpl, e_zpt, e_isi2, e_catT, e_catL, e_aug, e_ago, e_agn, e_meth1, e_meo, e_apd, e_dc, e_dcT, e_dctt, e_dctf, e_koi, e_kos, e_dg, e_augix, e_aug2, e_sl, e_sl2l, e_sl2t, e_repT, e_repL, e_yes, e_add, e_sub, e_mul, e_fdiv, e_mod, e_cmp, e_neg, e_ixt, e_ixl, e_at0, e_at1, e_at2, e_at3, e_eqi, e_nei, e_abs, e_int, e_intb, e_lenl, e_lent, e_tupl, e_tupt, e_can4, e_gtn, e_fori, e_fio, e_setdc, e_sdco, e_get2, e_isdk, e_geto, e_gtos, e_gton, e_newd, e_disp1, e_parok, e_parov, e_parvo, e_paroo, e_indc, e_nindc, e_max2, e_min2, e_meth0, e_me0, items_nil, items_cons, keyD_i, e_ch3, e_c3t, e_c3f, e_rgd2, e_rgv, e_rgvo, e_gsub, e_sub2, e_index, e_isl, e_lc2, bne_self_eq_false, beq_self_eq_true, Nat.reduceBEq, Nat.reduceEqDiff, List.length_cons, List.length_nil, Bool.and_true, Bool.true_and, lo1, lo2, lo3, lo4, lo5, decide_true, decide_false, fino2_r, fino_r, outo_r, outo_n, List.set_cons_zero, List.set_cons_succ, fino_n, Bool.not_true, Bool.not_false, mulOk_of hp.1 hq.d0 (by omega), mulOk_of hq.1 hp.d0 (by omega), mulOk_of hp.d0 hq.d0 (by omega), den_low_eq (dm p q) (bup s3 (Nat.le_succ _))]
  rw [e]
theorem times_eq {p q : Rat} {j k : Nat} (hp : Sz j p) (hq : Sz k q) (hk : j + k ≤ 8999 := by omega) : den_times [sh p, sh q] = some (sh (p * q)) ∧ Sz (j + k) (p * q) := by
  have e : p * q = Rat.divInt (p.num * q.num) (p.den * q.den) := by rw [← Rat.divInt_mul_divInt, Rat.num_divInt_den, Rat.num_divInt_den]
  have s3 : ((p.den : Int) * (q.den : Int)).natAbs < 2 ^ (j + k) := bm hp.d0 hq.d0
  refine ⟨?_, by rw [e]; exact Sz.div (dm p q) (bm hp.1 hq.1) s3⟩
  show fino (m_times [some (.v (.tup [.int p.num, .int p.den])), some (.v (.tup [.int q.num, .int q.den]))]) = _
  unfold m_times
  simp -implicitDefEqProofs only [e_bdo, e_bdn, e_bd, e_ob, e_obn, e_grt, e_grf, e_set0, e_setS, e_can0, e_can1, e_can2, e_can3, e_canS, e_own0, e_ownS, e_iol0, e_iolS, e_gt0, e_gtS, e_var, e_rdv, e_rdo, e_c, e_drv, e_drs, e_drov, e_droo, e_tvv, e_tvs, e_tvov, e_tvoo, e_tvl0, e_tvl1, e_drl0, e_drl1, e_m2, e_m2F, e_m1, e_mT, e_tbo, e_mFr, e_nil, e_cons, e_mB, e_mBF, e_tup, e_lst, e_call, e_callF, e_callIO, e_ioo, e_and, e_andt, e_andf, e_or, e_ort, e_orf, e_not, e_noto, e_bot, e_bof, e_if, e_tand, e_tor, e_tnot, e_isi, e_seq, e_seqn, e_seqr, e_seqb, e_seqc, e_seqo, e_snil, e_sno, e_sif, e_ift, e_iff, e_set, e_setF, e_ret, e_expr, e_gvar, e_par, e_par2, e_par3o, e_par3, e_gtup, e_gcons, e_gnil, e_for, e_sq, e_sql, e_sqt, e_r1, e_rgo, e_r2, e_rgo2, e_frn, e_frv, e_fro, e_fr1, e_fr2, e_wi1, e_wi2, e_re1, e_re2, e_lc, e_lcT, e_lctt, e_lctf, e_slL, e_slo, e_oNo, e_oS, e_oso, e_cut1, e_rev, e_rvo, e_ch, e_cht, e_chf, e_six, e_sxo, e_ixs, e_lens, e_lsts, e_lstl, e_lstt, e_pow, e_eqb, e_neb, e_ntb, e_isbb, e_isn, e_non, e_gt2, e_tint_non, e_tint_bl, e_tint_int, e_tint_str, e_tint_tup, e_tint_lst, e_tint_scr, e_tbool_non, e_tbool_bl, e_tbool_int, e_tbool_str, e_tbool_tup, e_tbool_lst, e_tbool_scr, e_tstr_non, e_tstr_bl, e_tstr_int, e_tstr_str, e_tstr_tup, e_tstr_lst, e_tstr_scr, e_ttuple_non, e_ttuple_bl, e_ttuple_int, e_ttuple_str, e_ttuple_tup, e_ttuple_lst, e_ttuple_scr, e_tlist_non, e_tlist_bl, e_tlist_int, e_tlist_str, e_tlist_tup, e_tlist_lst, e_tlist_scr, e_forn, e_fcn, e_fcr, e_fcc, e_fcb, e_revT, e_rvT, e_lr, e_tr, e_rg1, e_rg2, e_rgo1, e_rg2o, e_en, e_enl, e_ent, e_zp, e_zpl, e_zpt, e_isi2, e_catT, e_catL, e_aug, e_ago, e_agn, e_meth1, e_meo, e_apd, e_dc, e_dcT, e_dctt, e_dctf, e_koi, e_kos, e_dg, e_augix, e_aug2, e_sl, e_sl2l, e_sl2t, e_repT, e_repL, e_yes, e_add, e_sub, e_mul, e_fdiv, e_mod, e_cmp, e_neg, e_ixt, e_ixl, e_at0, e_at1, e_at2, e_at3, e_eqi, e_nei, e_abs, e_int, e_intb, e_lenl, e_lent, e_tupl, e_tupt, e_can4, e_gtn, e_fori, e_fio, e_setdc, e_sdco, e_get2, e_isdk, e_geto, e_gtos, e_gton, e_newd, e_disp1, e_parok, e_parov, e_parvo, e_paroo, e_indc, e_nindc, e_max2, e_min2, e_meth0, e_me0, items_nil, items_cons, keyD_i, e_ch3, e_c3t, e_c3f, e_rgd2, e_rgv, e_rgvo, e_gsub, e_sub2, e_index, e_isl, e_lc2, bne_self_eq_false, beq_self_eq_true, Nat.reduceBEq, Nat.reduceEqDiff, List.length_cons, List.length_nil, Bool.and_true, Bool.true_and, lo1, lo2, lo3, lo4, lo5, decide_true, decide_false, fino2_r, fino_r, outo_r, outo_n, List.set_cons_zero, List.set_cons_succ, fino_n, Bool.not_true, Bool.not_false, mulOk_of hp.1 hq.1 (by omega), mulOk_of hp.d0 hq.d0 (by omega), den_low_eq (dm p q) (bup s3 (Nat.le_succ _))]
  rw [e]
theorem over_eq {p q : Rat} {j k : Nat} (hp : Sz j p) (hq : Sz k q) (h0 : q.num ≠ 0) (hk : j + k ≤ 8999 := by omega) : den_over [sh p, sh q] = some (sh (p / q)) ∧ Sz (j + k) (p / q) := by
  have e : p / q = Rat.divInt (p.num * q.den) (p.den * q.num) := by rw [← Rat.divInt_mul_divInt, Rat.num_divInt_den, ← Rat.inv_divInt, Rat.num_divInt_den, Rat.div_def]
  have s3 : ((p.den : Int) * q.num).natAbs < 2 ^ (j + k) := bm hp.d0 hq.1
  have nz : (p.den : Int) * q.num ≠ 0 := Int.mul_ne_zero (dn p) h0
  refine ⟨?_, by rw [e]; exact Sz.div nz (bm hp.1 hq.d0) s3⟩
  show fino (m_over [some (.v (.tup [.int p.num, .int p.den])), some (.v (.tup [.int q.num, .int q.den]))]) = _
  unfold m_over
  simp -implicitDefEqProofs only [e_bdo, e_bdn, e_bd, e_ob, e_obn, e_grt, e_grf, e_set0, e_setS, e_can0, e_can1, e_can2, e_can3, e_canS, e_own0, e_ownS, e_iol0, e_iolS, e_gt0, e_gtS, e_var, e_rdv, e_rdo, e_c, e_drv, e_drs, e_drov, e_droo, e_tvv, e_tvs, e_tvov, e_tvoo, e_tvl0, e_tvl1, e_drl0, e_drl1, e_m2, e_m2F, e_m1, e_mT, e_tbo, e_mFr, e_nil, e_cons, e_mB, e_mBF, e_tup, e_lst, e_call, e_callF, e_callIO, e_ioo, e_and, e_andt, e_andf, e_or, e_ort, e_orf, e_not, e_noto, e_bot, e_bof, e_if, e_tand, e_tor, e_tnot, e_isi, e_seq, e_seqn, e_seqr, e_seqb, e_seqc, e_seqo, e_snil, e_sno, e_sif, e_ift, e_iff, e_set, e_setF, e_ret, e_expr, e_gvar, e_par, e_par2, e_par3o, e_par3, e_gtup, e_gcons, e_gnil, e_for, e_sq, e_sql, e_sqt, e_r1, e_rgo, e_r2, e_rgo2, e_frn, e_frv, e_fro, e_fr1, e_fr2, e_wi1, e_wi2, e_re1, e_re2, e_lc, e_lcT, e_lctt, e_lctf, e_slL, e_slo, e_oNo, e_oS, e_oso, e_cut1, e_rev, e_rvo, e_ch, e_cht, e_chf, e_six, e_sxo, e_ixs, e_lens, e_lsts, e_lstl, e_lstt, e_pow, e_eqb, e_neb, e_ntb, e_isbb, e_isn, e_non, e_gt2, e_tint_non, e_tint_bl, e_tint_int, e_tint_str, e_tint_tup, e_tint_lst, e_tint_scr, e_tbool_non, e_tbool_bl, e_tbool_int, e_tbool_str, e_tbool_tup, e_tbool_lst, e_tbool_scr, e_tstr_non, e_tstr_bl, e_tstr_int, e_tstr_str, e_tstr_tup, e_tstr_lst, e_tstr_scr, e_ttuple_non, e_ttuple_bl, e_ttuple_int, e_ttuple_str, e_ttuple_tup, e_ttuple_lst, e_ttuple_scr, e_tlist_non, e_tlist_bl, e_tlist_int, e_tlist_str, e_tlist_tup, e_tlist_lst, e_tlist_scr, e_forn, e_fcn, e_fcr, e_fcc, e_fcb, e_revT, e_rvT, e_lr, e_tr, e_rg1, e_rg2, e_rgo1, e_rg2o, e_en, e_enl, e_ent, e_zp, e_zpl, e_zpt, e_isi2, e_catT, e_catL, e_aug, e_ago, e_agn, e_meth1, e_meo, e_apd, e_dc, e_dcT, e_dctt, e_dctf, e_koi, e_kos, e_dg, e_augix, e_aug2, e_sl, e_sl2l, e_sl2t, e_repT, e_repL, e_yes, e_add, e_sub, e_mul, e_fdiv, e_mod, e_cmp, e_neg, e_ixt, e_ixl, e_at0, e_at1, e_at2, e_at3, e_eqi, e_nei, e_abs, e_int, e_intb, e_lenl, e_lent, e_tupl, e_tupt, e_can4, e_gtn, e_fori, e_fio, e_setdc, e_sdco, e_get2, e_isdk, e_geto, e_gtos, e_gton, e_newd, e_disp1, e_parok, e_parov, e_parvo, e_paroo, e_indc, e_nindc, e_max2, e_min2, e_meth0, e_me0, items_nil, items_cons, keyD_i, e_ch3, e_c3t, e_c3f, e_rgd2, e_rgv, e_rgvo, e_gsub, e_sub2, e_index, e_isl, e_lc2, bne_self_eq_false, beq_self_eq_true, Nat.reduceBEq, Nat.reduceEqDiff, List.length_cons, List.length_nil, Bool.and_true, Bool.true_and, lo1, lo2, lo3, lo4, lo5, decide_true, decide_false, fino2_r, fino_r, outo_r, outo_n, List.set_cons_zero, List.set_cons_succ, fino_n, Bool.not_true, Bool.not_false, mulOk_of hp.1 hq.d0 (by omega), mulOk_of hp.d0 hq.1 (by omega), den_low_eq nz (bup s3 (Nat.le_succ _))]
  rw [e]
theorem is_less_eq {p q : Rat} {j k : Nat} (hp : Sz j p) (hq : Sz k q) (hk : j + k ≤ 8999 := by omega) : den_is_less [sh p, sh q] = some (.bl (decide (p < q))) := by
  show fino (m_is_less [some (.v (.tup [.int p.num, .int p.den])), some (.v (.tup [.int q.num, .int q.den]))]) = _
  unfold m_is_less
  simp -implicitDefEqProofs only [e_bdo, e_bdn, e_bd, e_ob, e_obn, e_grt, e_grf, e_set0, e_setS, e_can0, e_can1, e_can2, e_can3, e_canS, e_own0, e_ownS, e_iol0, e_iolS, e_gt0, e_gtS, e_var, e_rdv, e_rdo, e_c, e_drv, e_drs, e_drov, e_droo, e_tvv, e_tvs, e_tvov, e_tvoo, e_tvl0, e_tvl1, e_drl0, e_drl1, e_m2, e_m2F, e_m1, e_mT, e_tbo, e_mFr, e_nil, e_cons, e_mB, e_mBF, e_tup, e_lst, e_call, e_callF, e_callIO, e_ioo, e_and, e_andt, e_andf, e_or, e_ort, e_orf, e_not, e_noto, e_bot, e_bof, e_if, e_tand, e_tor, e_tnot, e_isi, e_seq, e_seqn, e_seqr, e_seqb, e_seqc, e_seqo, e_snil, e_sno, e_sif, e_ift, e_iff, e_set, e_setF, e_ret, e_expr, e_gvar, e_par, e_par2, e_par3o, e_par3, e_gtup, e_gcons, e_gnil, e_for, e_sq, e_sql, e_sqt, e_r1, e_rgo, e_r2, e_rgo2, e_frn, e_frv, e_fro, e_fr1, e_fr2, e_wi1, e_wi2, e_re1, e_re2, e_lc, e_lcT, e_lctt, e_lctf, e_slL, e_slo, e_oNo, e_oS, e_oso, e_cut1, e_rev, e_rvo, e_ch, e_cht, e_chf, e_six, e_sxo, e_ixs, e_lens, e_lsts, e_lstl, e_lstt, e_pow, e_eqb, e_neb, e_ntb, e_isbb, e_isn, e_non, e_gt2, e_tint_non, e_tint_bl, e_tint_int, e_tint_str, e_tint_tup, e_tint_lst, e_tint_scr, e_tbool_non, e_tbool_bl, e_tbool_int, e_tbool_str, e_tbool_tup, e_tbool_lst, e_tbool_scr, e_tstr_non, e_tstr_bl, e_tstr_int, e_tstr_str, e_tstr_tup, e_tstr_lst, e_tstr_scr, e_ttuple_non, e_ttuple_bl, e_ttuple_int, e_ttuple_str, e_ttuple_tup, e_ttuple_lst, e_ttuple_scr, e_tlist_non, e_tlist_bl, e_tlist_int, e_tlist_str, e_tlist_tup, e_tlist_lst, e_tlist_scr, e_forn, e_fcn, e_fcr, e_fcc, e_fcb, e_revT, e_rvT, e_lr, e_tr, e_rg1, e_rg2, e_rgo1, e_rg2o, e_en, e_enl, e_ent, e_zp, e_zpl, e_zpt, e_isi2, e_catT, e_catL, e_aug, e_ago, e_agn, e_meth1, e_meo, e_apd, e_dc, e_dcT, e_dctt, e_dctf, e_koi, e_kos, e_dg, e_augix, e_aug2, e_sl, e_sl2l, e_sl2t, e_repT, e_repL, e_yes, e_add, e_sub, e_mul, e_fdiv, e_mod, e_cmp, e_neg, e_ixt, e_ixl, e_at0, e_at1, e_at2, e_at3, e_eqi, e_nei, e_abs, e_int, e_intb, e_lenl, e_lent, e_tupl, e_tupt, e_can4, e_gtn, e_fori, e_fio, e_setdc, e_sdco, e_get2, e_isdk, e_geto, e_gtos, e_gton, e_newd, e_disp1, e_parok, e_parov, e_parvo, e_paroo, e_indc, e_nindc, e_max2, e_min2, e_meth0, e_me0, items_nil, items_cons, keyD_i, e_ch3, e_c3t, e_c3f, e_rgd2, e_rgv, e_rgvo, e_gsub, e_sub2, e_index, e_isl, e_lc2, bne_self_eq_false, beq_self_eq_true, Nat.reduceBEq, Nat.reduceEqDiff, List.length_cons, List.length_nil, Bool.and_true, Bool.true_and, lo1, lo2, lo3, lo4, lo5, decide_true, decide_false, fino2_r, fino_r, outo_r, outo_n, List.set_cons_zero, List.set_cons_succ, fino_n, Bool.not_true, Bool.not_false, mulOk_of hp.1 hq.d0 (by omega), mulOk_of hq.1 hp.d0 (by omega)]
  rw [decide_eq_decide.mpr (Rat.lt_iff p q).symm]
theorem bpw {a : Int} {j : Nat} (h : a.natAbs < 2 ^ j) : ∀ n : Nat, (a ^ n).natAbs < 2 ^ (j * n + 1)
  | 0 => by simp
  | n + 1 => by
    rw [Int.pow_succ, show j * (n + 1) + 1 = (j * n + 1) + j by rw [Nat.mul_succ]; omega]
    exact bm (bpw h n) h
def tot (q : Rat) : List Rat → Rat
  | [] => q
  | p :: ps => tot (q + p) ps
theorem tot_loop {x : D} : ∀ {l : List Rat} {q : Rat} {o : Option SV} {j k : Nat} (hq : Sz k q) (hl : ∀ p ∈ l, Sz j p) (hk : k + (j + 1) * (l.length + 1) ≤ 8000) (ho : ∃ x, o = ov x), ∃ o2, forL (gVar 3) (sSet (gTup' 2 (gCons' (gVar 1) (gCons' (gVar 2) gNil'))) (mCall den_low (lCons (m2 addI (m2 mulI (mVar 1) (m2 ixD (mVar 3) (mC (.int 1)))) (m2 mulI (m2 ixD (mVar 3) (mC (.int 0))) (mVar 2))) (lCons (m2 mulI (mVar 2) (m2 ixD (mVar 3) (mC (.int 1)))) lNil)))) (l.map sh) [some (.v x), some (.v (.int q.num)), some (.v (.int q.den)), o] = some (.nx [some (.v x), some (.v (.int (tot q l).num)), some (.v (.int (tot q l).den)), o2])
  | [], q, o, j, k, hq, hl, hk, ho => ⟨o, rfl⟩
  | p :: l, q, o, j, k, hq, hl, hk, ho => by
    have e0 : (j + 1) * ((p :: l).length + 1) = (j + 1) * (l.length + 1) + (j + 1) := by rw [List.length_cons, Nat.mul_succ]
    obtain ⟨y, rfl⟩ := ho
    have hp := hl p List.mem_cons_self
    have e3 : q + p = Rat.divInt (q.num * p.den + p.num * q.den) (q.den * p.den) := by rw [← Rat.divInt_add_divInt _ _ (dn q) (dn p), Rat.num_divInt_den, Rat.num_divInt_den]
    have s1 : (q.num * (p.den : Int)).natAbs < 2 ^ (k + j) := bm hq.1 hp.d0
    have s2 : (p.num * (q.den : Int)).natAbs < 2 ^ (k + j) := by rw [Nat.add_comm]; exact bm hp.1 hq.d0
    have s3 : ((q.den : Int) * (p.den : Int)).natAbs < 2 ^ (k + j) := bm hq.d0 hp.d0
    have sq : Sz (k + j + 1) (q + p) := by rw [e3]; exact Sz.div (dm q p) (ba s1 s2) (bup s3 (by omega))
    obtain ⟨o2, e⟩ := tot_loop (l := l) (q := q + p) (o := some (.v (sh p))) sq (fun r hr => hl r (List.mem_cons_of_mem _ hr)) (by omega) ⟨some (sh p), rfl⟩
    refine ⟨o2, ?_⟩
    rw [List.map_cons, for_cons (ρ1 := [some (.v x), some (.v (.int q.num)), some (.v (.int q.den)), some (.v (sh p))]) (ρ2 := [some (.v x), some (.v (.int (q + p).num)), some (.v (.int (q + p).den)), some (.v (sh p))]) ?_ ?_, e]
    · rfl
    · simp -implicitDefEqProofs only [e_bdo, e_bdn, e_bd, e_ob, e_obn, e_grt, e_grf, e_set0, e_setS, e_can0, e_can1, e_can2, e_can3, e_canS, e_own0, e_ownS, e_iol0, e_iolS, e_gt0, e_gtS, e_var, e_rdv, e_rdo, e_c, e_drv, e_drs, e_drov, e_droo, e_tvv, e_tvs, e_tvov, e_tvoo, e_tvl0, e_tvl1, e_drl0, e_drl1, e_m2, e_m2F, e_m1, e_mT, e_tbo, e_mFr, e_nil, e_cons, e_mB, e_mBF, e_tup, e_lst, e_call, e_callF, e_callIO, e_ioo, e_and, e_andt, e_andf, e_or, e_ort, e_orf, e_not, e_noto, e_bot, e_bof, e_if, e_tand, e_tor, e_tnot, e_isi, e_seq, e_seqn, e_seqr, e_seqb, e_seqc, e_seqo, e_snil, e_sno, e_sif, e_ift, e_iff, e_set, e_setF, e_ret, e_expr, e_gvar, e_par, e_par2, e_par3o, e_par3, e_gtup, e_gcons, e_gnil, e_for, e_sq, e_sql, e_sqt, e_r1, e_rgo, e_r2, e_rgo2, e_frn, e_frv, e_fro, e_fr1, e_fr2, e_wi1, e_wi2, e_re1, e_re2, e_lc, e_lcT, e_lctt, e_lctf, e_slL, e_slo, e_oNo, e_oS, e_oso, e_cut1, e_rev, e_rvo, e_ch, e_cht, e_chf, e_six, e_sxo, e_ixs, e_lens, e_lsts, e_lstl, e_lstt, e_pow, e_eqb, e_neb, e_ntb, e_isbb, e_isn, e_non, e_gt2, e_tint_non, e_tint_bl, e_tint_int, e_tint_str, e_tint_tup, e_tint_lst, e_tint_scr, e_tbool_non, e_tbool_bl, e_tbool_int, e_tbool_str, e_tbool_tup, e_tbool_lst, e_tbool_scr, e_tstr_non, e_tstr_bl, e_tstr_int, e_tstr_str, e_tstr_tup, e_tstr_lst, e_tstr_scr, e_ttuple_non, e_ttuple_bl, e_ttuple_int, e_ttuple_str, e_ttuple_tup, e_ttuple_lst, e_ttuple_scr, e_tlist_non, e_tlist_bl, e_tlist_int, e_tlist_str, e_tlist_tup, e_tlist_lst, e_tlist_scr, e_forn, e_fcn, e_fcr, e_fcc, e_fcb, e_revT, e_rvT, e_lr, e_tr, e_rg1, e_rg2, e_rgo1, e_rg2o, e_en, e_enl, e_ent, e_zp, e_zpl, e_zpt, e_isi2, e_catT, e_catL, e_aug, e_ago, e_agn, e_meth1, e_meo, e_apd, e_dc, e_dcT, e_dctt, e_dctf, e_koi, e_kos, e_dg, e_augix, e_aug2, e_sl, e_sl2l, e_sl2t, e_repT, e_repL, e_yes, e_add, e_sub, e_mul, e_fdiv, e_mod, e_cmp, e_neg, e_ixt, e_ixl, e_at0, e_at1, e_at2, e_at3, e_eqi, e_nei, e_abs, e_int, e_intb, e_lenl, e_lent, e_tupl, e_tupt, e_can4, e_gtn, e_fori, e_fio, e_setdc, e_sdco, e_get2, e_isdk, e_geto, e_gtos, e_gton, e_newd, e_disp1, e_parok, e_parov, e_parvo, e_paroo, e_indc, e_nindc, e_max2, e_min2, e_meth0, e_me0, items_nil, items_cons, keyD_i, e_ch3, e_c3t, e_c3f, e_rgd2, e_rgv, e_rgvo, e_gsub, e_sub2, e_index, e_isl, e_lc2, bne_self_eq_false, beq_self_eq_true, Nat.reduceBEq, Nat.reduceEqDiff, List.length_cons, List.length_nil, Bool.and_true, Bool.true_and, lo1, lo2, lo3, lo4, lo5, decide_true, decide_false, fino2_r, fino_r, outo_r, outo_n, List.set_cons_zero, List.set_cons_succ, fino_n, Bool.not_true, Bool.not_false]
    · unfold sh
      simp -implicitDefEqProofs only [e_bdo, e_bdn, e_bd, e_ob, e_obn, e_grt, e_grf, e_set0, e_setS, e_can0, e_can1, e_can2, e_can3, e_canS, e_own0, e_ownS, e_iol0, e_iolS, e_gt0, e_gtS, e_var, e_rdv, e_rdo, e_c, e_drv, e_drs, e_drov, e_droo, e_tvv, e_tvs, e_tvov, e_tvoo, e_tvl0, e_tvl1, e_drl0, e_drl1, e_m2, e_m2F, e_m1, e_mT, e_tbo, e_mFr, e_nil, e_cons, e_mB, e_mBF, e_tup, e_lst, e_call, e_callF, e_callIO, e_ioo, e_and, e_andt, e_andf, e_or, e_ort, e_orf, e_not, e_noto, e_bot, e_bof, e_if, e_tand, e_tor, e_tnot, e_isi, e_seq, e_seqn, e_seqr, e_seqb, e_seqc, e_seqo, e_snil, e_sno, e_sif, e_ift, e_iff, e_set, e_setF, e_ret, e_expr, e_gvar, e_par, e_par2, e_par3o, e_par3, e_gtup, e_gcons, e_gnil, e_for, e_sq, e_sql, e_sqt, e_r1, e_rgo, e_r2, e_rgo2, e_frn, e_frv, e_fro, e_fr1, e_fr2, e_wi1, e_wi2, e_re1, e_re2, e_lc, e_lcT, e_lctt, e_lctf, e_slL, e_slo, e_oNo, e_oS, e_oso, e_cut1, e_rev, e_rvo, e_ch, e_cht, e_chf, e_six, e_sxo, e_ixs, e_lens, e_lsts, e_lstl, e_lstt, e_pow, e_eqb, e_neb, e_ntb, e_isbb, e_isn, e_non, e_gt2, e_tint_non, e_tint_bl, e_tint_int, e_tint_str, e_tint_tup, e_tint_lst, e_tint_scr, e_tbool_non, e_tbool_bl, e_tbool_int, e_tbool_str, e_tbool_tup, e_tbool_lst, e_tbool_scr, e_tstr_non, e_tstr_bl, e_tstr_int, e_tstr_str, e_tstr_tup, e_tstr_lst, e_tstr_scr, e_ttuple_non, e_ttuple_bl, e_ttuple_int, e_ttuple_str, e_ttuple_tup, e_ttuple_lst, e_ttuple_scr, e_tlist_non, e_tlist_bl, e_tlist_int, e_tlist_str, e_tlist_tup, e_tlist_lst, e_tlist_scr, e_forn, e_fcn, e_fcr, e_fcc, e_fcb, e_revT, e_rvT, e_lr, e_tr, e_rg1, e_rg2, e_rgo1, e_rg2o, e_en, e_enl, e_ent, e_zp, e_zpl, e_zpt, e_isi2, e_catT, e_catL, e_aug, e_ago, e_agn, e_meth1, e_meo, e_apd, e_dc, e_dcT, e_dctt, e_dctf, e_koi, e_kos, e_dg, e_augix, e_aug2, e_sl, e_sl2l, e_sl2t, e_repT, e_repL, e_yes, e_add, e_sub, e_mul, e_fdiv, e_mod, e_cmp, e_neg, e_ixt, e_ixl, e_at0, e_at1, e_at2, e_at3, e_eqi, e_nei, e_abs, e_int, e_intb, e_lenl, e_lent, e_tupl, e_tupt, e_can4, e_gtn, e_fori, e_fio, e_setdc, e_sdco, e_get2, e_isdk, e_geto, e_gtos, e_gton, e_newd, e_disp1, e_parok, e_parov, e_parvo, e_paroo, e_indc, e_nindc, e_max2, e_min2, e_meth0, e_me0, items_nil, items_cons, keyD_i, e_ch3, e_c3t, e_c3f, e_rgd2, e_rgv, e_rgvo, e_gsub, e_sub2, e_index, e_isl, e_lc2, bne_self_eq_false, beq_self_eq_true, Nat.reduceBEq, Nat.reduceEqDiff, List.length_cons, List.length_nil, Bool.and_true, Bool.true_and, lo1, lo2, lo3, lo4, lo5, decide_true, decide_false, fino2_r, fino_r, outo_r, outo_n, List.set_cons_zero, List.set_cons_succ, fino_n, Bool.not_true, Bool.not_false, mulOk_of hq.1 hp.d0 (by omega), mulOk_of hp.1 hq.d0 (by omega), mulOk_of hq.d0 hp.d0 (by omega), den_low_eq (dm q p) (bup s3 (Nat.le_succ _)) (by omega)]
      rw [← e3]
      unfold sh
      simp -implicitDefEqProofs only [e_bdo, e_bdn, e_bd, e_ob, e_obn, e_grt, e_grf, e_set0, e_setS, e_can0, e_can1, e_can2, e_can3, e_canS, e_own0, e_ownS, e_iol0, e_iolS, e_gt0, e_gtS, e_var, e_rdv, e_rdo, e_c, e_drv, e_drs, e_drov, e_droo, e_tvv, e_tvs, e_tvov, e_tvoo, e_tvl0, e_tvl1, e_drl0, e_drl1, e_m2, e_m2F, e_m1, e_mT, e_tbo, e_mFr, e_nil, e_cons, e_mB, e_mBF, e_tup, e_lst, e_call, e_callF, e_callIO, e_ioo, e_and, e_andt, e_andf, e_or, e_ort, e_orf, e_not, e_noto, e_bot, e_bof, e_if, e_tand, e_tor, e_tnot, e_isi, e_seq, e_seqn, e_seqr, e_seqb, e_seqc, e_seqo, e_snil, e_sno, e_sif, e_ift, e_iff, e_set, e_setF, e_ret, e_expr, e_gvar, e_par, e_par2, e_par3o, e_par3, e_gtup, e_gcons, e_gnil, e_for, e_sq, e_sql, e_sqt, e_r1, e_rgo, e_r2, e_rgo2, e_frn, e_frv, e_fro, e_fr1, e_fr2, e_wi1, e_wi2, e_re1, e_re2, e_lc, e_lcT, e_lctt, e_lctf, e_slL, e_slo, e_oNo, e_oS, e_oso, e_cut1, e_rev, e_rvo, e_ch, e_cht, e_chf, e_six, e_sxo, e_ixs, e_lens, e_lsts, e_lstl, e_lstt, e_pow, e_eqb, e_neb, e_ntb, e_isbb, e_isn, e_non, e_gt2, e_tint_non, e_tint_bl, e_tint_int, e_tint_str, e_tint_tup, e_tint_lst, e_tint_scr, e_tbool_non, e_tbool_bl, e_tbool_int, e_tbool_str, e_tbool_tup, e_tbool_lst, e_tbool_scr, e_tstr_non, e_tstr_bl, e_tstr_int, e_tstr_str, e_tstr_tup, e_tstr_lst, e_tstr_scr, e_ttuple_non, e_ttuple_bl, e_ttuple_int, e_ttuple_str, e_ttuple_tup, e_ttuple_lst, e_ttuple_scr, e_tlist_non, e_tlist_bl, e_tlist_int, e_tlist_str, e_tlist_tup, e_tlist_lst, e_tlist_scr, e_forn, e_fcn, e_fcr, e_fcc, e_fcb, e_revT, e_rvT, e_lr, e_tr, e_rg1, e_rg2, e_rgo1, e_rg2o, e_en, e_enl, e_ent, e_zp, e_zpl, e_zpt, e_isi2, e_catT, e_catL, e_aug, e_ago, e_agn, e_meth1, e_meo, e_apd, e_dc, e_dcT, e_dctt, e_dctf, e_koi, e_kos, e_dg, e_augix, e_aug2, e_sl, e_sl2l, e_sl2t, e_repT, e_repL, e_yes, e_add, e_sub, e_mul, e_fdiv, e_mod, e_cmp, e_neg, e_ixt, e_ixl, e_at0, e_at1, e_at2, e_at3, e_eqi, e_nei, e_abs, e_int, e_intb, e_lenl, e_lent, e_tupl, e_tupt, e_can4, e_gtn, e_fori, e_fio, e_setdc, e_sdco, e_get2, e_isdk, e_geto, e_gtos, e_gton, e_newd, e_disp1, e_parok, e_parov, e_parvo, e_paroo, e_indc, e_nindc, e_max2, e_min2, e_meth0, e_me0, items_nil, items_cons, keyD_i, e_ch3, e_c3t, e_c3f, e_rgd2, e_rgv, e_rgvo, e_gsub, e_sub2, e_index, e_isl, e_lc2, bne_self_eq_false, beq_self_eq_true, Nat.reduceBEq, Nat.reduceEqDiff, List.length_cons, List.length_nil, Bool.and_true, Bool.true_and, lo1, lo2, lo3, lo4, lo5, decide_true, decide_false, fino2_r, fino_r, outo_r, outo_n, List.set_cons_zero, List.set_cons_succ, fino_n, Bool.not_true, Bool.not_false]
theorem total_eq {l : List Rat} {j : Nat} {x : D} (hx : x = .lst (l.map sh) ∨ x = .tup (l.map sh)) (hl : ∀ p ∈ l, Sz j p) (hk : 1 + (j + 1) * (l.length + 1) ≤ 8000) : den_total [x] = some (sh (tot 0 l)) := by
  obtain ⟨o2, e⟩ := tot_loop (x := x) (l := l) (q := 0) (o := none) (k := 1) ⟨by decide, by decide⟩ hl hk ⟨none, rfl⟩
  have e' : forL (gVar 3) (sSet (gTup' 2 (gCons' (gVar 1) (gCons' (gVar 2) gNil'))) (mCall den_low (lCons (m2 addI (m2 mulI (mVar 1) (m2 ixD (mVar 3) (mC (.int 1)))) (m2 mulI (m2 ixD (mVar 3) (mC (.int 0))) (mVar 2))) (lCons (m2 mulI (mVar 2) (m2 ixD (mVar 3) (mC (.int 1)))) lNil)))) (l.map sh) [some (.v x), some (.v (.int 0)), some (.v (.int 1)), none] = some (.nx [some (.v x), some (.v (.int (tot 0 l).num)), some (.v (.int (tot 0 l).den)), o2]) := e
  show fino (m_total [some (.v x), none, none, none]) = _
  unfold m_total
  rcases hx with rfl | rfl <;> simp -implicitDefEqProofs only [e_bdo, e_bdn, e_bd, e_ob, e_obn, e_grt, e_grf, e_set0, e_setS, e_can0, e_can1, e_can2, e_can3, e_canS, e_own0, e_ownS, e_iol0, e_iolS, e_gt0, e_gtS, e_var, e_rdv, e_rdo, e_c, e_drv, e_drs, e_drov, e_droo, e_tvv, e_tvs, e_tvov, e_tvoo, e_tvl0, e_tvl1, e_drl0, e_drl1, e_m2, e_m2F, e_m1, e_mT, e_tbo, e_mFr, e_nil, e_cons, e_mB, e_mBF, e_tup, e_lst, e_call, e_callF, e_callIO, e_ioo, e_and, e_andt, e_andf, e_or, e_ort, e_orf, e_not, e_noto, e_bot, e_bof, e_if, e_tand, e_tor, e_tnot, e_isi, e_seq, e_seqn, e_seqr, e_seqb, e_seqc, e_seqo, e_snil, e_sno, e_sif, e_ift, e_iff, e_set, e_setF, e_ret, e_expr, e_gvar, e_par, e_par2, e_par3o, e_par3, e_gtup, e_gcons, e_gnil, e_for, e_sq, e_sql, e_sqt, e_r1, e_rgo, e_r2, e_rgo2, e_frn, e_frv, e_fro, e_fr1, e_fr2, e_wi1, e_wi2, e_re1, e_re2, e_lc, e_lcT, e_lctt, e_lctf, e_slL, e_slo, e_oNo, e_oS, e_oso, e_cut1, e_rev, e_rvo, e_ch, e_cht, e_chf, e_six, e_sxo, e_ixs, e_lens, e_lsts, e_lstl, e_lstt, e_pow, e_eqb, e_neb, e_ntb, e_isbb, e_isn, e_non, e_gt2, e_tint_non, e_tint_bl, e_tint_int, e_tint_str, e_tint_tup, e_tint_lst, e_tint_scr, e_tbool_non, e_tbool_bl, e_tbool_int, e_tbool_str, e_tbool_tup, e_tbool_lst, e_tbool_scr, e_tstr_non, e_tstr_bl, e_tstr_int, e_tstr_str, e_tstr_tup, e_tstr_lst, e_tstr_scr, e_ttuple_non, e_ttuple_bl, e_ttuple_int, e_ttuple_str, e_ttuple_tup, e_ttuple_lst, e_ttuple_scr, e_tlist_non, e_tlist_bl, e_tlist_int, e_tlist_str, e_tlist_tup, e_tlist_lst, e_tlist_scr, e_forn, e_fcn, e_fcr, e_fcc, e_fcb, e_revT, e_rvT, e_lr, e_tr, e_rg1, e_rg2, e_rgo1, e_rg2o, e_en, e_enl, e_ent, e_zp, e_zpl, e_zpt, e_isi2, e_catT, e_catL, e_aug, e_ago, e_agn, e_meth1, e_meo, e_apd, e_dc, e_dcT, e_dctt, e_dctf, e_koi, e_kos, e_dg, e_augix, e_aug2, e_sl, e_sl2l, e_sl2t, e_repT, e_repL, e_yes, e_add, e_sub, e_mul, e_fdiv, e_mod, e_cmp, e_neg, e_ixt, e_ixl, e_at0, e_at1, e_at2, e_at3, e_eqi, e_nei, e_abs, e_int, e_intb, e_lenl, e_lent, e_tupl, e_tupt, e_can4, e_gtn, e_fori, e_fio, e_setdc, e_sdco, e_get2, e_isdk, e_geto, e_gtos, e_gton, e_newd, e_disp1, e_parok, e_parov, e_parvo, e_paroo, e_indc, e_nindc, e_max2, e_min2, e_meth0, e_me0, items_nil, items_cons, keyD_i, e_ch3, e_c3t, e_c3f, e_rgd2, e_rgv, e_rgvo, e_gsub, e_sub2, e_index, e_isl, e_lc2, bne_self_eq_false, beq_self_eq_true, Nat.reduceBEq, Nat.reduceEqDiff, List.length_cons, List.length_nil, Bool.and_true, Bool.true_and, lo1, lo2, lo3, lo4, lo5, decide_true, decide_false, fino2_r, fino_r, outo_r, outo_n, List.set_cons_zero, List.set_cons_succ, fino_n, Bool.not_true, Bool.not_false, e_for, e'] <;> rfl
theorem is_whole_eq {i : Int} : den_is_whole [.int i] = some (.bl true) := by
  show fino (m_is_whole [some (.v (.int i))]) = _
  unfold m_is_whole
  simp -implicitDefEqProofs only [e_bdo, e_bdn, e_bd, e_ob, e_obn, e_grt, e_grf, e_set0, e_setS, e_can0, e_can1, e_can2, e_can3, e_canS, e_own0, e_ownS, e_iol0, e_iolS, e_gt0, e_gtS, e_var, e_rdv, e_rdo, e_c, e_drv, e_drs, e_drov, e_droo, e_tvv, e_tvs, e_tvov, e_tvoo, e_tvl0, e_tvl1, e_drl0, e_drl1, e_m2, e_m2F, e_m1, e_mT, e_tbo, e_mFr, e_nil, e_cons, e_mB, e_mBF, e_tup, e_lst, e_call, e_callF, e_callIO, e_ioo, e_and, e_andt, e_andf, e_or, e_ort, e_orf, e_not, e_noto, e_bot, e_bof, e_if, e_tand, e_tor, e_tnot, e_isi, e_seq, e_seqn, e_seqr, e_seqb, e_seqc, e_seqo, e_snil, e_sno, e_sif, e_ift, e_iff, e_set, e_setF, e_ret, e_expr, e_gvar, e_par, e_par2, e_par3o, e_par3, e_gtup, e_gcons, e_gnil, e_for, e_sq, e_sql, e_sqt, e_r1, e_rgo, e_r2, e_rgo2, e_frn, e_frv, e_fro, e_fr1, e_fr2, e_wi1, e_wi2, e_re1, e_re2, e_lc, e_lcT, e_lctt, e_lctf, e_slL, e_slo, e_oNo, e_oS, e_oso, e_cut1, e_rev, e_rvo, e_ch, e_cht, e_chf, e_six, e_sxo, e_ixs, e_lens, e_lsts, e_lstl, e_lstt, e_pow, e_eqb, e_neb, e_ntb, e_isbb, e_isn, e_non, e_gt2, e_tint_non, e_tint_bl, e_tint_int, e_tint_str, e_tint_tup, e_tint_lst, e_tint_scr, e_tbool_non, e_tbool_bl, e_tbool_int, e_tbool_str, e_tbool_tup, e_tbool_lst, e_tbool_scr, e_tstr_non, e_tstr_bl, e_tstr_int, e_tstr_str, e_tstr_tup, e_tstr_lst, e_tstr_scr, e_ttuple_non, e_ttuple_bl, e_ttuple_int, e_ttuple_str, e_ttuple_tup, e_ttuple_lst, e_ttuple_scr, e_tlist_non, e_tlist_bl, e_tlist_int, e_tlist_str, e_tlist_tup, e_tlist_lst, e_tlist_scr, e_forn, e_fcn, e_fcr, e_fcc, e_fcb, e_revT, e_rvT, e_lr, e_tr, e_rg1, e_rg2, e_rgo1, e_rg2o, e_en, e_enl, e_ent, e_zp, e_zpl, e_zpt, e_isi2, e_catT, e_catL, e_aug, e_ago, e_agn, e_meth1, e_meo, e_apd, e_dc, e_dcT, e_dctt, e_dctf, e_koi, e_kos, e_dg, e_augix, e_aug2, e_sl, e_sl2l, e_sl2t, e_repT, e_repL, e_yes, e_add, e_sub, e_mul, e_fdiv, e_mod, e_cmp, e_neg, e_ixt, e_ixl, e_at0, e_at1, e_at2, e_at3, e_eqi, e_nei, e_abs, e_int, e_intb, e_lenl, e_lent, e_tupl, e_tupt, e_can4, e_gtn, e_fori, e_fio, e_setdc, e_sdco, e_get2, e_isdk, e_geto, e_gtos, e_gton, e_newd, e_disp1, e_parok, e_parov, e_parvo, e_paroo, e_indc, e_nindc, e_max2, e_min2, e_meth0, e_me0, items_nil, items_cons, keyD_i, e_ch3, e_c3t, e_c3f, e_rgd2, e_rgv, e_rgvo, e_gsub, e_sub2, e_index, e_isl, e_lc2, bne_self_eq_false, beq_self_eq_true, Nat.reduceBEq, Nat.reduceEqDiff, List.length_cons, List.length_nil, Bool.and_true, Bool.true_and, lo1, lo2, lo3, lo4, lo5, decide_true, decide_false, fino2_r, fino_r, outo_r, outo_n, List.set_cons_zero, List.set_cons_succ, fino_n, Bool.not_true, Bool.not_false]
theorem is_share_eq (q : Rat) : den_is_share [sh q] = some (.bl true) := by
  show fino (m_is_share [some (.v (sh q))]) = _
  unfold m_is_share sh
  have h : (0 : Int) < q.den := by have := q.den_pos; omega
  have h1 : Int.gcd q.num q.den = 1 := q.reduced
  simp -implicitDefEqProofs only [e_bdo, e_bdn, e_bd, e_ob, e_obn, e_grt, e_grf, e_set0, e_setS, e_can0, e_can1, e_can2, e_can3, e_canS, e_own0, e_ownS, e_iol0, e_iolS, e_gt0, e_gtS, e_var, e_rdv, e_rdo, e_c, e_drv, e_drs, e_drov, e_droo, e_tvv, e_tvs, e_tvov, e_tvoo, e_tvl0, e_tvl1, e_drl0, e_drl1, e_m2, e_m2F, e_m1, e_mT, e_tbo, e_mFr, e_nil, e_cons, e_mB, e_mBF, e_tup, e_lst, e_call, e_callF, e_callIO, e_ioo, e_and, e_andt, e_andf, e_or, e_ort, e_orf, e_not, e_noto, e_bot, e_bof, e_if, e_tand, e_tor, e_tnot, e_isi, e_seq, e_seqn, e_seqr, e_seqb, e_seqc, e_seqo, e_snil, e_sno, e_sif, e_ift, e_iff, e_set, e_setF, e_ret, e_expr, e_gvar, e_par, e_par2, e_par3o, e_par3, e_gtup, e_gcons, e_gnil, e_for, e_sq, e_sql, e_sqt, e_r1, e_rgo, e_r2, e_rgo2, e_frn, e_frv, e_fro, e_fr1, e_fr2, e_wi1, e_wi2, e_re1, e_re2, e_lc, e_lcT, e_lctt, e_lctf, e_slL, e_slo, e_oNo, e_oS, e_oso, e_cut1, e_rev, e_rvo, e_ch, e_cht, e_chf, e_six, e_sxo, e_ixs, e_lens, e_lsts, e_lstl, e_lstt, e_pow, e_eqb, e_neb, e_ntb, e_isbb, e_isn, e_non, e_gt2, e_tint_non, e_tint_bl, e_tint_int, e_tint_str, e_tint_tup, e_tint_lst, e_tint_scr, e_tbool_non, e_tbool_bl, e_tbool_int, e_tbool_str, e_tbool_tup, e_tbool_lst, e_tbool_scr, e_tstr_non, e_tstr_bl, e_tstr_int, e_tstr_str, e_tstr_tup, e_tstr_lst, e_tstr_scr, e_ttuple_non, e_ttuple_bl, e_ttuple_int, e_ttuple_str, e_ttuple_tup, e_ttuple_lst, e_ttuple_scr, e_tlist_non, e_tlist_bl, e_tlist_int, e_tlist_str, e_tlist_tup, e_tlist_lst, e_tlist_scr, e_forn, e_fcn, e_fcr, e_fcc, e_fcb, e_revT, e_rvT, e_lr, e_tr, e_rg1, e_rg2, e_rgo1, e_rg2o, e_en, e_enl, e_ent, e_zp, e_zpl, e_zpt, e_isi2, e_catT, e_catL, e_aug, e_ago, e_agn, e_meth1, e_meo, e_apd, e_dc, e_dcT, e_dctt, e_dctf, e_koi, e_kos, e_dg, e_augix, e_aug2, e_sl, e_sl2l, e_sl2t, e_repT, e_repL, e_yes, e_add, e_sub, e_mul, e_fdiv, e_mod, e_cmp, e_neg, e_ixt, e_ixl, e_at0, e_at1, e_at2, e_at3, e_eqi, e_nei, e_abs, e_int, e_intb, e_lenl, e_lent, e_tupl, e_tupt, e_can4, e_gtn, e_fori, e_fio, e_setdc, e_sdco, e_get2, e_isdk, e_geto, e_gtos, e_gton, e_newd, e_disp1, e_parok, e_parov, e_parvo, e_paroo, e_indc, e_nindc, e_max2, e_min2, e_meth0, e_me0, items_nil, items_cons, keyD_i, e_ch3, e_c3t, e_c3f, e_rgd2, e_rgv, e_rgvo, e_gsub, e_sub2, e_index, e_isl, e_lc2, bne_self_eq_false, beq_self_eq_true, Nat.reduceBEq, Nat.reduceEqDiff, List.length_cons, List.length_nil, Bool.and_true, Bool.true_and, lo1, lo2, lo3, lo4, lo5, decide_true, decide_false, fino2_r, fino_r, outo_r, outo_n, List.set_cons_zero, List.set_cons_succ, fino_n, Bool.not_true, Bool.not_false, is_whole_eq, den_divisor_eq, decide_eq_true h, show decide (((0 + 1 + 1 : Nat) : Int) = 2) = true from rfl, h1, show decide (((1 : Nat) : Int) = 1) = true from rfl]
theorem is_chance_eq {w s : Int} (hw : 0 ≤ w) (hs : 0 < s) (h : w ≤ s) : den_is_chance [sh (Rat.divInt w s)] = some (.bl true) := by
  show fino (m_is_chance [some (.v (sh (Rat.divInt w s)))]) = _
  unfold m_is_chance
  have e1 := is_share_eq (Rat.divInt w s)
  have hg : (0 : Int) < (Int.gcd w s : Int) := by
    have := Int.gcd_pos_of_ne_zero_right w (show s ≠ 0 by omega)
    omega
  have h1 : 0 ≤ (Rat.divInt w s).num := by rw [numP hs]; exact Int.ediv_nonneg hw (by omega)
  have h2 : (Rat.divInt w s).num ≤ ((Rat.divInt w s).den : Int) := by rw [numP hs, denP hs]; exact Int.ediv_le_ediv hg h
  simp -implicitDefEqProofs only [e_bdo, e_bdn, e_bd, e_ob, e_obn, e_grt, e_grf, e_set0, e_setS, e_can0, e_can1, e_can2, e_can3, e_canS, e_own0, e_ownS, e_iol0, e_iolS, e_gt0, e_gtS, e_var, e_rdv, e_rdo, e_c, e_drv, e_drs, e_drov, e_droo, e_tvv, e_tvs, e_tvov, e_tvoo, e_tvl0, e_tvl1, e_drl0, e_drl1, e_m2, e_m2F, e_m1, e_mT, e_tbo, e_mFr, e_nil, e_cons, e_mB, e_mBF, e_tup, e_lst, e_call, e_callF, e_callIO, e_ioo, e_and, e_andt, e_andf, e_or, e_ort, e_orf, e_not, e_noto, e_bot, e_bof, e_if, e_tand, e_tor, e_tnot, e_isi, e_seq, e_seqn, e_seqr, e_seqb, e_seqc, e_seqo, e_snil, e_sno, e_sif, e_ift, e_iff, e_set, e_setF, e_ret, e_expr, e_gvar, e_par, e_par2, e_par3o, e_par3, e_gtup, e_gcons, e_gnil, e_for, e_sq, e_sql, e_sqt, e_r1, e_rgo, e_r2, e_rgo2, e_frn, e_frv, e_fro, e_fr1, e_fr2, e_wi1, e_wi2, e_re1, e_re2, e_lc, e_lcT, e_lctt, e_lctf, e_slL, e_slo, e_oNo, e_oS, e_oso, e_cut1, e_rev, e_rvo, e_ch, e_cht, e_chf, e_six, e_sxo, e_ixs, e_lens, e_lsts, e_lstl, e_lstt, e_pow, e_eqb, e_neb, e_ntb, e_isbb, e_isn, e_non, e_gt2, e_tint_non, e_tint_bl, e_tint_int, e_tint_str, e_tint_tup, e_tint_lst, e_tint_scr, e_tbool_non, e_tbool_bl, e_tbool_int, e_tbool_str, e_tbool_tup, e_tbool_lst, e_tbool_scr, e_tstr_non, e_tstr_bl, e_tstr_int, e_tstr_str, e_tstr_tup, e_tstr_lst, e_tstr_scr, e_ttuple_non, e_ttuple_bl, e_ttuple_int, e_ttuple_str, e_ttuple_tup, e_ttuple_lst, e_ttuple_scr, e_tlist_non, e_tlist_bl, e_tlist_int, e_tlist_str, e_tlist_tup, e_tlist_lst, e_tlist_scr, e_forn, e_fcn, e_fcr, e_fcc, e_fcb, e_revT, e_rvT, e_lr, e_tr, e_rg1, e_rg2, e_rgo1, e_rg2o, e_en, e_enl, e_ent, e_zp, e_zpl, e_zpt, e_isi2, e_catT, e_catL, e_aug, e_ago, e_agn, e_meth1, e_meo, e_apd, e_dc, e_dcT, e_dctt, e_dctf, e_koi, e_kos, e_dg, e_augix, e_aug2, e_sl, e_sl2l, e_sl2t, e_repT, e_repL, e_yes, e_add, e_sub, e_mul, e_fdiv, e_mod, e_cmp, e_neg, e_ixt, e_ixl, e_at0, e_at1, e_at2, e_at3, e_eqi, e_nei, e_abs, e_int, e_intb, e_lenl, e_lent, e_tupl, e_tupt, e_can4, e_gtn, e_fori, e_fio, e_setdc, e_sdco, e_get2, e_isdk, e_geto, e_gtos, e_gton, e_newd, e_disp1, e_parok, e_parov, e_parvo, e_paroo, e_indc, e_nindc, e_max2, e_min2, e_meth0, e_me0, items_nil, items_cons, keyD_i, e_ch3, e_c3t, e_c3f, e_rgd2, e_rgv, e_rgvo, e_gsub, e_sub2, e_index, e_isl, e_lc2, bne_self_eq_false, beq_self_eq_true, Nat.reduceBEq, Nat.reduceEqDiff, List.length_cons, List.length_nil, Bool.and_true, Bool.true_and, lo1, lo2, lo3, lo4, lo5, decide_true, decide_false, fino2_r, fino_r, outo_r, outo_n, List.set_cons_zero, List.set_cons_succ, fino_n, Bool.not_true, Bool.not_false, e1, e_and]
  unfold sh
  simp -implicitDefEqProofs only [e_bdo, e_bdn, e_bd, e_ob, e_obn, e_grt, e_grf, e_set0, e_setS, e_can0, e_can1, e_can2, e_can3, e_canS, e_own0, e_ownS, e_iol0, e_iolS, e_gt0, e_gtS, e_var, e_rdv, e_rdo, e_c, e_drv, e_drs, e_drov, e_droo, e_tvv, e_tvs, e_tvov, e_tvoo, e_tvl0, e_tvl1, e_drl0, e_drl1, e_m2, e_m2F, e_m1, e_mT, e_tbo, e_mFr, e_nil, e_cons, e_mB, e_mBF, e_tup, e_lst, e_call, e_callF, e_callIO, e_ioo, e_and, e_andt, e_andf, e_or, e_ort, e_orf, e_not, e_noto, e_bot, e_bof, e_if, e_tand, e_tor, e_tnot, e_isi, e_seq, e_seqn, e_seqr, e_seqb, e_seqc, e_seqo, e_snil, e_sno, e_sif, e_ift, e_iff, e_set, e_setF, e_ret, e_expr, e_gvar, e_par, e_par2, e_par3o, e_par3, e_gtup, e_gcons, e_gnil, e_for, e_sq, e_sql, e_sqt, e_r1, e_rgo, e_r2, e_rgo2, e_frn, e_frv, e_fro, e_fr1, e_fr2, e_wi1, e_wi2, e_re1, e_re2, e_lc, e_lcT, e_lctt, e_lctf, e_slL, e_slo, e_oNo, e_oS, e_oso, e_cut1, e_rev, e_rvo, e_ch, e_cht, e_chf, e_six, e_sxo, e_ixs, e_lens, e_lsts, e_lstl, e_lstt, e_pow, e_eqb, e_neb, e_ntb, e_isbb, e_isn, e_non, e_gt2, e_tint_non, e_tint_bl, e_tint_int, e_tint_str, e_tint_tup, e_tint_lst, e_tint_scr, e_tbool_non, e_tbool_bl, e_tbool_int, e_tbool_str, e_tbool_tup, e_tbool_lst, e_tbool_scr, e_tstr_non, e_tstr_bl, e_tstr_int, e_tstr_str, e_tstr_tup, e_tstr_lst, e_tstr_scr, e_ttuple_non, e_ttuple_bl, e_ttuple_int, e_ttuple_str, e_ttuple_tup, e_ttuple_lst, e_ttuple_scr, e_tlist_non, e_tlist_bl, e_tlist_int, e_tlist_str, e_tlist_tup, e_tlist_lst, e_tlist_scr, e_forn, e_fcn, e_fcr, e_fcc, e_fcb, e_revT, e_rvT, e_lr, e_tr, e_rg1, e_rg2, e_rgo1, e_rg2o, e_en, e_enl, e_ent, e_zp, e_zpl, e_zpt, e_isi2, e_catT, e_catL, e_aug, e_ago, e_agn, e_meth1, e_meo, e_apd, e_dc, e_dcT, e_dctt, e_dctf, e_koi, e_kos, e_dg, e_augix, e_aug2, e_sl, e_sl2l, e_sl2t, e_repT, e_repL, e_yes, e_add, e_sub, e_mul, e_fdiv, e_mod, e_cmp, e_neg, e_ixt, e_ixl, e_at0, e_at1, e_at2, e_at3, e_eqi, e_nei, e_abs, e_int, e_intb, e_lenl, e_lent, e_tupl, e_tupt, e_can4, e_gtn, e_fori, e_fio, e_setdc, e_sdco, e_get2, e_isdk, e_geto, e_gtos, e_gton, e_newd, e_disp1, e_parok, e_parov, e_parvo, e_paroo, e_indc, e_nindc, e_max2, e_min2, e_meth0, e_me0, items_nil, items_cons, keyD_i, e_ch3, e_c3t, e_c3f, e_rgd2, e_rgv, e_rgvo, e_gsub, e_sub2, e_index, e_isl, e_lc2, bne_self_eq_false, beq_self_eq_true, Nat.reduceBEq, Nat.reduceEqDiff, List.length_cons, List.length_nil, Bool.and_true, Bool.true_and, lo1, lo2, lo3, lo4, lo5, decide_true, decide_false, fino2_r, fino_r, outo_r, outo_n, List.set_cons_zero, List.set_cons_succ, fino_n, Bool.not_true, Bool.not_false, decide_eq_true h1, decide_eq_true h2]
theorem bls_true {α : Type} : ∀ l : List α, blsOf (l.map fun _ => D.bl true) = some (l.map fun _ => true)
  | [] => rfl
  | _ :: l => by rw [List.map_cons, blsOf, bls_true l]; rfl
theorem all_true {α : Type} {l : List α} : allD [.lst (l.map fun _ => D.bl true)] = some (.bl true) := by
  show ob (blsOf _) _ = _
  rw [bls_true, e_ob]
  congr 2
  simp
theorem ints_map : ∀ l : List Int, intsOf (l.map D.int) = some l
  | [] => rfl
  | _ :: l => by rw [List.map_cons, intsOf, ints_map l]
theorem sum_tup {l : List Int} : sumD [.tup (l.map D.int)] = some (.int l.sum) := by
  show ob (intsOf _) _ = _
  rw [ints_map, e_ob]
theorem eq_sh {p q : Rat} : eqD (sh p) (sh q) = some (.bl (decide (p = q))) := by
  have h : ∀ x y : Int, shp (.tuple [.int x, .int y]) = true := fun x y => by simp [shp, SeqAt.shaped, PyData.canLay0, PyData.canLayAll0, PyData.depth, PyData.depthAll]
  simp only [sh, eqD, toP, toPL, ob, h, Bool.and_self, e_grt]
  rw [PyData.eqv]
  simp only [PyData.eqvAll, PyData.eqv]
  congr 2
  by_cases e : p = q
  · subst e; simp
  · rw [decide_eq_false e]
    have : ¬ (p.num = q.num ∧ p.den = q.den) := fun ⟨x, y⟩ => e (Rat.ext x y)
    simp
    intro x y
    exact this ⟨x, by omega⟩
theorem ne_sh {p q : Rat} (h : p = q) : neD (sh p) (sh q) = some (.bl false) := by
  subst h
  have h : ∀ x y : Int, shp (.tuple [.int x, .int y]) = true := fun x y => by simp [shp, SeqAt.shaped, PyData.canLay0, PyData.canLayAll0, PyData.depth, PyData.depthAll]
  simp only [sh, neD, toP, toPL, ob, h, Bool.and_self, e_grt]
  rw [PyData.eqv]
  simp only [PyData.eqvAll, PyData.eqv]
  simp
theorem mem_int {l : List Int} {d : D} (h : d ∈ l.map D.int) : ∃ w, w ∈ l ∧ d = .int w := by
  obtain ⟨w, hw, e⟩ := List.mem_map.mp h
  exact ⟨w, hw, e.symm⟩
theorem divInt_add {a b s : Int} (h : s ≠ 0) : Rat.divInt a s + Rat.divInt b s = Rat.divInt (a + b) s := by
  rw [Rat.divInt_add_divInt _ _ h h, ← Int.add_mul, Rat.divInt_mul_right h]
/-! equations: what solved does -/
abbrev Mx := List (List Rat)
def rw' (M : Mx) (k : Nat) : List Rat := M.getD k []
def ent (M : Mx) (k c : Nat) : Rat := (rw' M k).getD c 0
def mD (M : Mx) : List D := M.map fun r => D.lst (r.map sh)
def Wf (m w : Nat) (M : Mx) : Prop := M.length = m ∧ ∀ k, k < m → (rw' M k).length = w + 1
def SzR (J : Nat) (r : List Rat) : Prop := ∀ x ∈ r, Sz J x
theorem mD_len (M : Mx) : (mD M).length = M.length := by unfold mD; simp
theorem mD_at {M : Mx} {k : Nat} (h : k < M.length) : atI (mD M) (k : Int) = some (.lst ((rw' M k).map sh)) := at_nat (by
  unfold mD rw'
  rw [List.getElem?_map, List.getD_eq_getElem?_getD, List.getElem?_eq_getElem h]; rfl)
theorem row_at {r : List Rat} {c : Nat} (h : c < r.length) : atI (r.map sh) (c : Int) = some (sh (r.getD c 0)) := at_nat (by
  rw [List.getElem?_map, List.getD_eq_getElem?_getD, List.getElem?_eq_getElem h]; rfl)
theorem sh_ix0 (q : Rat) : ixD (sh q) (.int 0) = some (.int q.num) := rfl
theorem mD_set {M : Mx} {k : Nat} {r : List Rat} : (mD M).set k (.lst (r.map sh)) = mD (M.set k r) := by
  unfold mD
  rw [List.map_set]
theorem rw_set {M : Mx} {i k : Nat} {r : List Rat} (hi : i < M.length) : rw' (M.set i r) k = if k = i then r else rw' M k := by
  unfold rw'
  rw [List.getD_eq_getElem?_getD, List.getD_eq_getElem?_getD]
  by_cases h : k = i
  · subst h; rw [if_pos rfl, List.getElem?_set_self hi]; rfl
  · rw [if_neg h, List.getElem?_set_ne (fun e => h e.symm)]
def comb (r : List Rat) (by' : Rat) (s : List Rat) : List Rat := (r.zip s).map fun p => p.1 - by' * p.2
theorem comb_len {r s : List Rat} {b : Rat} (h : r.length = s.length) : (comb r b s).length = r.length := by unfold comb; simp [h]
theorem comb_at {r s : List Rat} {b : Rat} {j : Nat} (h : r.length = s.length) (hj : j < r.length) : (comb r b s).getD j 0 = r.getD j 0 - b * s.getD j 0 := by
  unfold comb
  simp only [List.getD_eq_getElem?_getD, List.getElem?_map]
  rw [List.getElem?_eq_getElem (show j < (r.zip s).length by simp; omega), List.getElem?_eq_getElem hj, List.getElem?_eq_getElem (show j < s.length by omega), List.getElem_zip]
  rfl
/-- the rows ahead of k done -/
def elim (M : Mx) (c : Nat) : Nat → Mx
  | 0 => M
  | k + 1 => if k ≠ c ∧ ent (elim M c k) k c ≠ 0 then (elim M c k).set k (comb (rw' (elim M c k) k) (ent (elim M c k) k c) (rw' (elim M c k) c)) else elim M c k
theorem elim_len (M : Mx) (c : Nat) : ∀ k, (elim M c k).length = M.length
  | 0 => rfl
  | k + 1 => by unfold elim; split <;> simp [elim_len M c k]
theorem elim_rw {M : Mx} {c : Nat} : ∀ (n : Nat), n ≤ M.length → ∀ k, rw' (elim M c n) k = if k < n ∧ k ≠ c ∧ ent M k c ≠ 0 then comb (rw' M k) (ent M k c) (rw' M c) else rw' M k
  | 0, _, k => by rw [if_neg (by omega)]; rfl
  | n + 1, h, k => by
    have ih := elim_rw (M := M) (c := c) n (by omega)
    have en : rw' (elim M c n) n = rw' M n := by rw [ih, if_neg (by omega)]
    have ec : rw' (elim M c n) c = rw' M c := by rw [ih, if_neg (by intro q; exact q.2.1 rfl)]
    have ee : ent (elim M c n) n c = ent M n c := by unfold ent; rw [en]
    unfold elim
    rw [ee, en, ec]
    by_cases q : n ≠ c ∧ ent M n c ≠ 0
    · rw [if_pos q, rw_set (by rw [elim_len]; omega), ih]
      by_cases e : k = n
      · subst e; rw [if_pos rfl, if_pos ⟨by omega, q⟩]
      · rw [if_neg e]
        by_cases z : k < n ∧ k ≠ c ∧ ent M k c ≠ 0
        · rw [if_pos z, if_pos ⟨by omega, z.2⟩]
        · rw [if_neg z, if_neg (fun y => z ⟨by omega, y.2⟩)]
    · rw [if_neg q, ih]
      by_cases z : k < n ∧ k ≠ c ∧ ent M k c ≠ 0
      · rw [if_pos z, if_pos ⟨by omega, z.2⟩]
      · rw [if_neg z, if_neg (fun y => by
          by_cases e : k = n
          · subst e; exact q y.2
          · exact z ⟨by omega, y.2⟩)]
theorem zip_sh : ∀ (r s : List Rat), zipD (r.map sh) (s.map sh) = (r.zip s).map fun p => D.tup [sh p.1, sh p.2]
  | [], _ => rfl
  | _ :: _, [] => rfl
  | x :: r, y :: s => by
    rw [List.map_cons, List.map_cons, List.zip_cons_cons, List.map_cons, zipD, zip_sh r s]
def elB : SVt := (sIf (tAnd' (mT (m2 neD (mVar 5) (mVar 3))) (mT (m2 neD (m2 ixD (m2 ixD (m2 ixD (mVar 0) (mVar 5)) (mVar 4)) (mC (.int 0))) (mC (.int 0))))) (sSeq (sSet (gVar 9) (m2 ixD (m2 ixD (mVar 0) (mVar 5)) (mVar 4))) (sSetIx 0 (mVar 5) (mFr (mLc (iZip' (m2 ixD (mVar 0) (mVar 5)) (m2 ixD (mVar 0) (mVar 3))) (gTup' 2 (gCons' (gVar 8) (gCons' (gVar 10) gNil'))) tYes' (mCall den_less (lCons (mVar 8) (lCons (mCall den_times (lCons (mVar 9) (lCons (mVar 10) lNil))) lNil))) [8, 10])))) sNil)
theorem num0 {q : Rat} : decide (q.num = 0) = decide (q = 0) := decide_eq_decide.mpr Rat.num_eq_zero
theorem mem_rw {r : List Rat} {j : Nat} (h : j < r.length) : r.getD j 0 ∈ r := by
  rw [List.getD_eq_getElem?_getD, List.getElem?_eq_getElem h]; exact List.getElem_mem _
theorem el_loop {m w c J : Nat} {M : Mx} (hW : Wf m w M) (hc : c < m) (hcw : c < w) (hJ : 4 * J ≤ 8990) (hm : m ≤ 1000) (hw : w ≤ 1000) (hs : ∀ k, k < m → k ≠ c → SzR J (rw' M k)) (hsc : SzR (2 * J) (rw' M c)) {o1 o2 o6 o7 : Option SV} {x8 x10 : Option D} : ∀ (n k : Nat) (x5 x9 : Option D), k + n = m → ∃ y5 y9, forL (gVar 5) elB ((List.range' k n).map fun (i : Nat) => D.int (0 + (i : Int))) [some (.o false (.lst (mD (elim M c k)))), o1, o2, some (.v (.int (c : Int))), some (.v (.int (c : Int))), ov x5, o6, o7, ov x8, ov x9, ov x10] = some (.nx [some (.o false (.lst (mD (elim M c m)))), o1, o2, some (.v (.int (c : Int))), some (.v (.int (c : Int))), ov y5, o6, o7, ov x8, ov y9, ov x10])
  | 0, k, x5, x9, e => by
    have e' : k = m := by omega
    rw [e']
    exact ⟨x5, x9, rfl⟩
  | n + 1, k, x5, x9, e => by
    have hk : k < m := by omega
    have en : rw' (elim M c k) k = rw' M k := by rw [elim_rw k (by rw [hW.1]; omega), if_neg (by omega)]
    have ec : rw' (elim M c k) c = rw' M c := by rw [elim_rw k (by rw [hW.1]; omega), if_neg (by intro q; exact q.2.1 rfl)]
    have ee : ent (elim M c k) k c = ent M k c := by unfold ent; rw [en]
    have lk := hW.2 k hk
    have lc := hW.2 c hc
    have hl : (elim M c k).length = m := by rw [elim_len, hW.1]
    have a1 := mD_at (M := elim M c k) (k := k) (by omega)
    have a2 := mD_at (M := elim M c k) (k := c) (by omega)
    rw [en] at a1
    rw [ec] at a2
    have r1 := row_at (r := rw' M k) (c := c) (by omega)
    have step : ∃ z9, elB [some (.o false (.lst (mD (elim M c k)))), o1, o2, some (.v (.int (c : Int))), some (.v (.int (c : Int))), some (.v (.int (k : Int))), o6, o7, ov x8, ov x9, ov x10] = some (.nx [some (.o false (.lst (mD (elim M c (k + 1))))), o1, o2, some (.v (.int (c : Int))), some (.v (.int (c : Int))), some (.v (.int (k : Int))), o6, o7, ov x8, ov z9, ov x10]) := by
      unfold elB
      by_cases q : k = c
      · have e1 : elim M c (k + 1) = elim M c k := by
          conv => lhs; unfold elim
          rw [if_neg (fun z => z.1 q)]
        refine ⟨x9, ?_⟩
        rw [e1]
        simp -implicitDefEqProofs only [e_bdo, e_bdn, e_bd, e_ob, e_obn, e_grt, e_grf, e_set0, e_setS, e_can0, e_can1, e_can2, e_can3, e_canS, e_own0, e_ownS, e_iol0, e_iolS, e_gt0, e_gtS, e_var, e_rdv, e_rdo, e_c, e_drv, e_drs, e_drov, e_droo, e_tvv, e_tvs, e_tvov, e_tvoo, e_tvl0, e_tvl1, e_drl0, e_drl1, e_m2, e_m2F, e_m1, e_mT, e_tbo, e_mFr, e_nil, e_cons, e_mB, e_mBF, e_tup, e_lst, e_call, e_callF, e_callIO, e_ioo, e_and, e_andt, e_andf, e_or, e_ort, e_orf, e_not, e_noto, e_bot, e_bof, e_if, e_tand, e_tor, e_tnot, e_isi, e_seq, e_seqn, e_seqr, e_seqb, e_seqc, e_seqo, e_snil, e_sno, e_sif, e_ift, e_iff, e_set, e_setF, e_ret, e_expr, e_gvar, e_par, e_par2, e_par3o, e_par3, e_gtup, e_gcons, e_gnil, e_for, e_sq, e_sql, e_sqt, e_r1, e_rgo, e_r2, e_rgo2, e_frn, e_frv, e_fro, e_fr1, e_fr2, e_wi1, e_wi2, e_re1, e_re2, e_lc, e_lcT, e_lctt, e_lctf, e_slL, e_slo, e_oNo, e_oS, e_oso, e_cut1, e_rev, e_rvo, e_ch, e_cht, e_chf, e_six, e_sxo, e_ixs, e_lens, e_lsts, e_lstl, e_lstt, e_pow, e_eqb, e_neb, e_ntb, e_isbb, e_isn, e_non, e_gt2, e_tint_non, e_tint_bl, e_tint_int, e_tint_str, e_tint_tup, e_tint_lst, e_tint_scr, e_tbool_non, e_tbool_bl, e_tbool_int, e_tbool_str, e_tbool_tup, e_tbool_lst, e_tbool_scr, e_tstr_non, e_tstr_bl, e_tstr_int, e_tstr_str, e_tstr_tup, e_tstr_lst, e_tstr_scr, e_ttuple_non, e_ttuple_bl, e_ttuple_int, e_ttuple_str, e_ttuple_tup, e_ttuple_lst, e_ttuple_scr, e_tlist_non, e_tlist_bl, e_tlist_int, e_tlist_str, e_tlist_tup, e_tlist_lst, e_tlist_scr, e_forn, e_fcn, e_fcr, e_fcc, e_fcb, e_revT, e_rvT, e_lr, e_tr, e_rg1, e_rg2, e_rgo1, e_rg2o, e_en, e_enl, e_ent, e_zp, e_zpl, e_zpt, e_isi2, e_catT, e_catL, e_aug, e_ago, e_agn, e_meth1, e_meo, e_apd, e_dc, e_dcT, e_dctt, e_dctf, e_koi, e_kos, e_dg, e_augix, e_aug2, e_sl, e_sl2l, e_sl2t, e_repT, e_repL, e_yes, e_add, e_sub, e_mul, e_fdiv, e_mod, e_cmp, e_neg, e_ixt, e_ixl, e_at0, e_at1, e_at2, e_at3, e_eqi, e_nei, e_abs, e_int, e_intb, e_lenl, e_lent, e_tupl, e_tupt, e_can4, e_gtn, e_fori, e_fio, e_setdc, e_sdco, e_get2, e_isdk, e_geto, e_gtos, e_gton, e_newd, e_disp1, e_parok, e_parov, e_parvo, e_paroo, e_indc, e_nindc, e_max2, e_min2, e_meth0, e_me0, items_nil, items_cons, keyD_i, e_ch3, e_c3t, e_c3f, e_rgd2, e_rgv, e_rgvo, e_gsub, e_sub2, e_index, e_isl, e_lc2, bne_self_eq_false, beq_self_eq_true, Nat.reduceBEq, Nat.reduceEqDiff, List.length_cons, List.length_nil, Bool.and_true, Bool.true_and, lo1, lo2, lo3, lo4, lo5, decide_true, decide_false, fino2_r, fino_r, outo_r, outo_n, List.set_cons_zero, List.set_cons_succ, fino_n, Bool.not_true, Bool.not_false, e_nei, decide_eq_true (show (k : Int) = (c : Int) by omega)]
      · by_cases z : ent M k c = 0
        · have e1 : elim M c (k + 1) = elim M c k := by
            conv => lhs; unfold elim
            rw [ee, if_neg (fun y => y.2 z)]
          have z' : ((rw' M k).getD c 0) = 0 := z
          refine ⟨x9, ?_⟩
          rw [e1]
          simp -implicitDefEqProofs only [e_bdo, e_bdn, e_bd, e_ob, e_obn, e_grt, e_grf, e_set0, e_setS, e_can0, e_can1, e_can2, e_can3, e_canS, e_own0, e_ownS, e_iol0, e_iolS, e_gt0, e_gtS, e_var, e_rdv, e_rdo, e_c, e_drv, e_drs, e_drov, e_droo, e_tvv, e_tvs, e_tvov, e_tvoo, e_tvl0, e_tvl1, e_drl0, e_drl1, e_m2, e_m2F, e_m1, e_mT, e_tbo, e_mFr, e_nil, e_cons, e_mB, e_mBF, e_tup, e_lst, e_call, e_callF, e_callIO, e_ioo, e_and, e_andt, e_andf, e_or, e_ort, e_orf, e_not, e_noto, e_bot, e_bof, e_if, e_tand, e_tor, e_tnot, e_isi, e_seq, e_seqn, e_seqr, e_seqb, e_seqc, e_seqo, e_snil, e_sno, e_sif, e_ift, e_iff, e_set, e_setF, e_ret, e_expr, e_gvar, e_par, e_par2, e_par3o, e_par3, e_gtup, e_gcons, e_gnil, e_for, e_sq, e_sql, e_sqt, e_r1, e_rgo, e_r2, e_rgo2, e_frn, e_frv, e_fro, e_fr1, e_fr2, e_wi1, e_wi2, e_re1, e_re2, e_lc, e_lcT, e_lctt, e_lctf, e_slL, e_slo, e_oNo, e_oS, e_oso, e_cut1, e_rev, e_rvo, e_ch, e_cht, e_chf, e_six, e_sxo, e_ixs, e_lens, e_lsts, e_lstl, e_lstt, e_pow, e_eqb, e_neb, e_ntb, e_isbb, e_isn, e_non, e_gt2, e_tint_non, e_tint_bl, e_tint_int, e_tint_str, e_tint_tup, e_tint_lst, e_tint_scr, e_tbool_non, e_tbool_bl, e_tbool_int, e_tbool_str, e_tbool_tup, e_tbool_lst, e_tbool_scr, e_tstr_non, e_tstr_bl, e_tstr_int, e_tstr_str, e_tstr_tup, e_tstr_lst, e_tstr_scr, e_ttuple_non, e_ttuple_bl, e_ttuple_int, e_ttuple_str, e_ttuple_tup, e_ttuple_lst, e_ttuple_scr, e_tlist_non, e_tlist_bl, e_tlist_int, e_tlist_str, e_tlist_tup, e_tlist_lst, e_tlist_scr, e_forn, e_fcn, e_fcr, e_fcc, e_fcb, e_revT, e_rvT, e_lr, e_tr, e_rg1, e_rg2, e_rgo1, e_rg2o, e_en, e_enl, e_ent, e_zp, e_zpl, e_zpt, e_isi2, e_catT, e_catL, e_aug, e_ago, e_agn, e_meth1, e_meo, e_apd, e_dc, e_dcT, e_dctt, e_dctf, e_koi, e_kos, e_dg, e_augix, e_aug2, e_sl, e_sl2l, e_sl2t, e_repT, e_repL, e_yes, e_add, e_sub, e_mul, e_fdiv, e_mod, e_cmp, e_neg, e_ixt, e_ixl, e_at0, e_at1, e_at2, e_at3, e_eqi, e_nei, e_abs, e_int, e_intb, e_lenl, e_lent, e_tupl, e_tupt, e_can4, e_gtn, e_fori, e_fio, e_setdc, e_sdco, e_get2, e_isdk, e_geto, e_gtos, e_gton, e_newd, e_disp1, e_parok, e_parov, e_parvo, e_paroo, e_indc, e_nindc, e_max2, e_min2, e_meth0, e_me0, items_nil, items_cons, keyD_i, e_ch3, e_c3t, e_c3f, e_rgd2, e_rgv, e_rgvo, e_gsub, e_sub2, e_index, e_isl, e_lc2, bne_self_eq_false, beq_self_eq_true, Nat.reduceBEq, Nat.reduceEqDiff, List.length_cons, List.length_nil, Bool.and_true, Bool.true_and, lo1, lo2, lo3, lo4, lo5, decide_true, decide_false, fino2_r, fino_r, outo_r, outo_n, List.set_cons_zero, List.set_cons_succ, fino_n, Bool.not_true, Bool.not_false, e_nei, decide_eq_false (show ¬ (k : Int) = (c : Int) by omega), a1, r1, sh_ix0, num0, decide_eq_true z']
        · have e1 : elim M c (k + 1) = (elim M c k).set k (comb (rw' M k) (ent M k c) (rw' M c)) := by
            conv => lhs; unfold elim
            rw [ee, if_pos ⟨q, z⟩, en, ec]
          have z' : ¬ ((rw' M k).getD c 0) = 0 := z
          have ll : (rw' M k).length = (rw' M c).length := by omega
          have cl : lcL (gTup' 2 (gCons' (gVar 8) (gCons' (gVar 10) gNil'))) tYes' (mCall den_less (lCons (mVar 8) (lCons (mCall den_times (lCons (mVar 9) (lCons (mVar 10) lNil))) lNil))) [8, 10] (zipD ((rw' M k).map sh) ((rw' M c).map sh)) [some (.o false (.lst (mD (elim M c k)))), o1, o2, some (.v (.int (c : Int))), some (.v (.int (c : Int))), some (.v (.int (k : Int))), o6, o7, ov x8, some (.v (sh ((rw' M k).getD c 0))), ov x10] = some ((comb (rw' M k) (ent M k c) (rw' M c)).map sh, [some (.o false (.lst (mD (elim M c k)))), o1, o2, some (.v (.int (c : Int))), some (.v (.int (c : Int))), some (.v (.int (k : Int))), o6, o7, ov x8, some (.v (sh ((rw' M k).getD c 0))), ov x10]) := by
            rw [zip_sh]
            unfold comb
            rw [List.map_map]
            exact lc_mapE (fun p : Rat × Rat => D.tup [sh p.1, sh p.2]) _ fun p hp => by
              have h1 := hs k hk q p.1 (List.of_mem_zip hp).1
              have h2 := hsc p.2 (List.of_mem_zip hp).2
              have hb := hs k hk q _ (mem_rw (show c < (rw' M k).length by omega))
              have t := times_eq hb h2 (by omega)
              have l := (less_eq h1 t.2 (by omega)).1
              simp -implicitDefEqProofs only [e_bdo, e_bdn, e_bd, e_ob, e_obn, e_grt, e_grf, e_set0, e_setS, e_can0, e_can1, e_can2, e_can3, e_canS, e_own0, e_ownS, e_iol0, e_iolS, e_gt0, e_gtS, e_var, e_rdv, e_rdo, e_c, e_drv, e_drs, e_drov, e_droo, e_tvv, e_tvs, e_tvov, e_tvoo, e_tvl0, e_tvl1, e_drl0, e_drl1, e_m2, e_m2F, e_m1, e_mT, e_tbo, e_mFr, e_nil, e_cons, e_mB, e_mBF, e_tup, e_lst, e_call, e_callF, e_callIO, e_ioo, e_and, e_andt, e_andf, e_or, e_ort, e_orf, e_not, e_noto, e_bot, e_bof, e_if, e_tand, e_tor, e_tnot, e_isi, e_seq, e_seqn, e_seqr, e_seqb, e_seqc, e_seqo, e_snil, e_sno, e_sif, e_ift, e_iff, e_set, e_setF, e_ret, e_expr, e_gvar, e_par, e_par2, e_par3o, e_par3, e_gtup, e_gcons, e_gnil, e_for, e_sq, e_sql, e_sqt, e_r1, e_rgo, e_r2, e_rgo2, e_frn, e_frv, e_fro, e_fr1, e_fr2, e_wi1, e_wi2, e_re1, e_re2, e_lc, e_lcT, e_lctt, e_lctf, e_slL, e_slo, e_oNo, e_oS, e_oso, e_cut1, e_rev, e_rvo, e_ch, e_cht, e_chf, e_six, e_sxo, e_ixs, e_lens, e_lsts, e_lstl, e_lstt, e_pow, e_eqb, e_neb, e_ntb, e_isbb, e_isn, e_non, e_gt2, e_tint_non, e_tint_bl, e_tint_int, e_tint_str, e_tint_tup, e_tint_lst, e_tint_scr, e_tbool_non, e_tbool_bl, e_tbool_int, e_tbool_str, e_tbool_tup, e_tbool_lst, e_tbool_scr, e_tstr_non, e_tstr_bl, e_tstr_int, e_tstr_str, e_tstr_tup, e_tstr_lst, e_tstr_scr, e_ttuple_non, e_ttuple_bl, e_ttuple_int, e_ttuple_str, e_ttuple_tup, e_ttuple_lst, e_ttuple_scr, e_tlist_non, e_tlist_bl, e_tlist_int, e_tlist_str, e_tlist_tup, e_tlist_lst, e_tlist_scr, e_forn, e_fcn, e_fcr, e_fcc, e_fcb, e_revT, e_rvT, e_lr, e_tr, e_rg1, e_rg2, e_rgo1, e_rg2o, e_en, e_enl, e_ent, e_zp, e_zpl, e_zpt, e_isi2, e_catT, e_catL, e_aug, e_ago, e_agn, e_meth1, e_meo, e_apd, e_dc, e_dcT, e_dctt, e_dctf, e_koi, e_kos, e_dg, e_augix, e_aug2, e_sl, e_sl2l, e_sl2t, e_repT, e_repL, e_yes, e_add, e_sub, e_mul, e_fdiv, e_mod, e_cmp, e_neg, e_ixt, e_ixl, e_at0, e_at1, e_at2, e_at3, e_eqi, e_nei, e_abs, e_int, e_intb, e_lenl, e_lent, e_tupl, e_tupt, e_can4, e_gtn, e_fori, e_fio, e_setdc, e_sdco, e_get2, e_isdk, e_geto, e_gtos, e_gton, e_newd, e_disp1, e_parok, e_parov, e_parvo, e_paroo, e_indc, e_nindc, e_max2, e_min2, e_meth0, e_me0, items_nil, items_cons, keyD_i, e_ch3, e_c3t, e_c3f, e_rgd2, e_rgv, e_rgvo, e_gsub, e_sub2, e_index, e_isl, e_lc2, bne_self_eq_false, beq_self_eq_true, Nat.reduceBEq, Nat.reduceEqDiff, List.length_cons, List.length_nil, Bool.and_true, Bool.true_and, lo1, lo2, lo3, lo4, lo5, decide_true, decide_false, fino2_r, fino_r, outo_r, outo_n, List.set_cons_zero, List.set_cons_succ, fino_n, Bool.not_true, Bool.not_false, t.1, l]
              rfl
          have zl : (zipD ((rw' M k).map sh) ((rw' M c).map sh)).length = w + 1 := by rw [zip_sh]; simp; omega
          refine ⟨some (sh ((rw' M k).getD c 0)), ?_⟩
          rw [e1]
          simp -implicitDefEqProofs only [e_bdo, e_bdn, e_bd, e_ob, e_obn, e_grt, e_grf, e_set0, e_setS, e_can0, e_can1, e_can2, e_can3, e_canS, e_own0, e_ownS, e_iol0, e_iolS, e_gt0, e_gtS, e_var, e_rdv, e_rdo, e_c, e_drv, e_drs, e_drov, e_droo, e_tvv, e_tvs, e_tvov, e_tvoo, e_tvl0, e_tvl1, e_drl0, e_drl1, e_m2, e_m2F, e_m1, e_mT, e_tbo, e_mFr, e_nil, e_cons, e_mB, e_mBF, e_tup, e_lst, e_call, e_callF, e_callIO, e_ioo, e_and, e_andt, e_andf, e_or, e_ort, e_orf, e_not, e_noto, e_bot, e_bof, e_if, e_tand, e_tor, e_tnot, e_isi, e_seq, e_seqn, e_seqr, e_seqb, e_seqc, e_seqo, e_snil, e_sno, e_sif, e_ift, e_iff, e_set, e_setF, e_ret, e_expr, e_gvar, e_par, e_par2, e_par3o, e_par3, e_gtup, e_gcons, e_gnil, e_for, e_sq, e_sql, e_sqt, e_r1, e_rgo, e_r2, e_rgo2, e_frn, e_frv, e_fro, e_fr1, e_fr2, e_wi1, e_wi2, e_re1, e_re2, e_lc, e_lcT, e_lctt, e_lctf, e_slL, e_slo, e_oNo, e_oS, e_oso, e_cut1, e_rev, e_rvo, e_ch, e_cht, e_chf, e_six, e_sxo, e_ixs, e_lens, e_lsts, e_lstl, e_lstt, e_pow, e_eqb, e_neb, e_ntb, e_isbb, e_isn, e_non, e_gt2, e_tint_non, e_tint_bl, e_tint_int, e_tint_str, e_tint_tup, e_tint_lst, e_tint_scr, e_tbool_non, e_tbool_bl, e_tbool_int, e_tbool_str, e_tbool_tup, e_tbool_lst, e_tbool_scr, e_tstr_non, e_tstr_bl, e_tstr_int, e_tstr_str, e_tstr_tup, e_tstr_lst, e_tstr_scr, e_ttuple_non, e_ttuple_bl, e_ttuple_int, e_ttuple_str, e_ttuple_tup, e_ttuple_lst, e_ttuple_scr, e_tlist_non, e_tlist_bl, e_tlist_int, e_tlist_str, e_tlist_tup, e_tlist_lst, e_tlist_scr, e_forn, e_fcn, e_fcr, e_fcc, e_fcb, e_revT, e_rvT, e_lr, e_tr, e_rg1, e_rg2, e_rgo1, e_rg2o, e_en, e_enl, e_ent, e_zp, e_zpl, e_zpt, e_isi2, e_catT, e_catL, e_aug, e_ago, e_agn, e_meth1, e_meo, e_apd, e_dc, e_dcT, e_dctt, e_dctf, e_koi, e_kos, e_dg, e_augix, e_aug2, e_sl, e_sl2l, e_sl2t, e_repT, e_repL, e_yes, e_add, e_sub, e_mul, e_fdiv, e_mod, e_cmp, e_neg, e_ixt, e_ixl, e_at0, e_at1, e_at2, e_at3, e_eqi, e_nei, e_abs, e_int, e_intb, e_lenl, e_lent, e_tupl, e_tupt, e_can4, e_gtn, e_fori, e_fio, e_setdc, e_sdco, e_get2, e_isdk, e_geto, e_gtos, e_gton, e_newd, e_disp1, e_parok, e_parov, e_parvo, e_paroo, e_indc, e_nindc, e_max2, e_min2, e_meth0, e_me0, items_nil, items_cons, keyD_i, e_ch3, e_c3t, e_c3f, e_rgd2, e_rgv, e_rgvo, e_gsub, e_sub2, e_index, e_isl, e_lc2, bne_self_eq_false, beq_self_eq_true, Nat.reduceBEq, Nat.reduceEqDiff, List.length_cons, List.length_nil, Bool.and_true, Bool.true_and, lo1, lo2, lo3, lo4, lo5, decide_true, decide_false, fino2_r, fino_r, outo_r, outo_n, List.set_cons_zero, List.set_cons_succ, fino_n, Bool.not_true, Bool.not_false, e_nei, decide_eq_false (show ¬ (k : Int) = (c : Int) by omega), a1, a2, r1, sh_ix0, num0, decide_eq_false z', e_fro, zl, show lineOk (w + 1) = true from decide_eq_true (by omega), cl, mD_len, hl, ixn_of hk, mD_set]
          rfl
    obtain ⟨z9, step⟩ := step
    obtain ⟨y5, y9, ih⟩ := el_loop hW hc hcw hJ hm hw hs hsc (o1 := o1) (o2 := o2) (o6 := o6) (o7 := o7) (x8 := x8) (x10 := x10) n (k + 1) (some (.int (k : Int))) z9 (by omega)
    refine ⟨y5, y9, ?_⟩
    rw [List.range'_succ, List.map_cons, for_cons (ρ1 := [some (.o false (.lst (mD (elim M c k)))), o1, o2, some (.v (.int (c : Int))), some (.v (.int (c : Int))), some (.v (.int (k : Int))), o6, o7, ov x8, ov x9, ov x10]) (ρ2 := [some (.o false (.lst (mD (elim M c (k + 1))))), o1, o2, some (.v (.int (c : Int))), some (.v (.int (c : Int))), some (.v (.int (k : Int))), o6, o7, ov x8, ov z9, ov x10]) (by simp -implicitDefEqProofs only [e_bdo, e_bdn, e_bd, e_ob, e_obn, e_grt, e_grf, e_set0, e_setS, e_can0, e_can1, e_can2, e_can3, e_canS, e_own0, e_ownS, e_iol0, e_iolS, e_gt0, e_gtS, e_var, e_rdv, e_rdo, e_c, e_drv, e_drs, e_drov, e_droo, e_tvv, e_tvs, e_tvov, e_tvoo, e_tvl0, e_tvl1, e_drl0, e_drl1, e_m2, e_m2F, e_m1, e_mT, e_tbo, e_mFr, e_nil, e_cons, e_mB, e_mBF, e_tup, e_lst, e_call, e_callF, e_callIO, e_ioo, e_and, e_andt, e_andf, e_or, e_ort, e_orf, e_not, e_noto, e_bot, e_bof, e_if, e_tand, e_tor, e_tnot, e_isi, e_seq, e_seqn, e_seqr, e_seqb, e_seqc, e_seqo, e_snil, e_sno, e_sif, e_ift, e_iff, e_set, e_setF, e_ret, e_expr, e_gvar, e_par, e_par2, e_par3o, e_par3, e_gtup, e_gcons, e_gnil, e_for, e_sq, e_sql, e_sqt, e_r1, e_rgo, e_r2, e_rgo2, e_frn, e_frv, e_fro, e_fr1, e_fr2, e_wi1, e_wi2, e_re1, e_re2, e_lc, e_lcT, e_lctt, e_lctf, e_slL, e_slo, e_oNo, e_oS, e_oso, e_cut1, e_rev, e_rvo, e_ch, e_cht, e_chf, e_six, e_sxo, e_ixs, e_lens, e_lsts, e_lstl, e_lstt, e_pow, e_eqb, e_neb, e_ntb, e_isbb, e_isn, e_non, e_gt2, e_tint_non, e_tint_bl, e_tint_int, e_tint_str, e_tint_tup, e_tint_lst, e_tint_scr, e_tbool_non, e_tbool_bl, e_tbool_int, e_tbool_str, e_tbool_tup, e_tbool_lst, e_tbool_scr, e_tstr_non, e_tstr_bl, e_tstr_int, e_tstr_str, e_tstr_tup, e_tstr_lst, e_tstr_scr, e_ttuple_non, e_ttuple_bl, e_ttuple_int, e_ttuple_str, e_ttuple_tup, e_ttuple_lst, e_ttuple_scr, e_tlist_non, e_tlist_bl, e_tlist_int, e_tlist_str, e_tlist_tup, e_tlist_lst, e_tlist_scr, e_forn, e_fcn, e_fcr, e_fcc, e_fcb, e_revT, e_rvT, e_lr, e_tr, e_rg1, e_rg2, e_rgo1, e_rg2o, e_en, e_enl, e_ent, e_zp, e_zpl, e_zpt, e_isi2, e_catT, e_catL, e_aug, e_ago, e_agn, e_meth1, e_meo, e_apd, e_dc, e_dcT, e_dctt, e_dctf, e_koi, e_kos, e_dg, e_augix, e_aug2, e_sl, e_sl2l, e_sl2t, e_repT, e_repL, e_yes, e_add, e_sub, e_mul, e_fdiv, e_mod, e_cmp, e_neg, e_ixt, e_ixl, e_at0, e_at1, e_at2, e_at3, e_eqi, e_nei, e_abs, e_int, e_intb, e_lenl, e_lent, e_tupl, e_tupt, e_can4, e_gtn, e_fori, e_fio, e_setdc, e_sdco, e_get2, e_isdk, e_geto, e_gtos, e_gton, e_newd, e_disp1, e_parok, e_parov, e_parvo, e_paroo, e_indc, e_nindc, e_max2, e_min2, e_meth0, e_me0, items_nil, items_cons, keyD_i, e_ch3, e_c3t, e_c3f, e_rgd2, e_rgv, e_rgvo, e_gsub, e_sub2, e_index, e_isl, e_lc2, bne_self_eq_false, beq_self_eq_true, Nat.reduceBEq, Nat.reduceEqDiff, List.length_cons, List.length_nil, Bool.and_true, Bool.true_and, lo1, lo2, lo3, lo4, lo5, decide_true, decide_false, fino2_r, fino_r, outo_r, outo_n, List.set_cons_zero, List.set_cons_succ, fino_n, Bool.not_true, Bool.not_false, Int.zero_add]) step]
    exact ih
/-- sums of products -/
def dt (g f : Nat → Rat) : Nat → Rat
  | 0 => 0
  | n + 1 => dt g f n + g n * f n
theorem dt_congr {g h f : Nat → Rat} : ∀ {n : Nat}, (∀ j, j < n → g j = h j) → dt g f n = dt h f n
  | 0, _ => rfl
  | n + 1, q => by
    show dt g f n + g n * f n = dt h f n + h n * f n
    rw [dt_congr fun j hj => q j (by omega), q n (by omega)]
theorem dt_lin {a r f : Nat → Rat} {b : Rat} : ∀ n, dt (fun j => a j - b * r j) f n = dt a f n - b * dt r f n
  | 0 => by show (0 : Rat) = 0 - b * 0; grind
  | n + 1 => by
    show dt (fun j => a j - b * r j) f n + (a n - b * r n) * f n = dt a f n + a n * f n - b * (dt r f n + r n * f n)
    rw [dt_lin n]; grind
theorem dt_scale {r f : Nat → Rat} {b : Rat} : ∀ n, dt (fun j => b * r j) f n = b * dt r f n
  | 0 => by show (0 : Rat) = b * 0; grind
  | n + 1 => by
    show dt (fun j => b * r j) f n + (b * r n) * f n = b * (dt r f n + r n * f n)
    rw [dt_scale n]; grind
def Sol (m w : Nat) (M : Mx) (f : Nat → Rat) : Prop := ∀ k, k < m → dt (ent M k) f w = ent M k w
def Hom (m w : Nat) (M : Mx) (f : Nat → Rat) : Prop := ∀ k, k < m → dt (ent M k) f w = 0
def Inj (m w : Nat) (M : Mx) : Prop := ∀ f, Hom m w M f → ∀ j, j < w → f j = 0
def Red (m : Nat) (M : Mx) (c : Nat) : Prop := ∀ k, k < m → ∀ j, j < c → ent M k j = if k = j then 1 else 0
/-- one column -/
def swap (M : Mx) (c s : Nat) : Mx := (M.set c (rw' M s)).set s (rw' M c)
def scal (M : Mx) (c : Nat) : Mx := M.set c ((rw' M c).map fun x => x / ent M c c)
def colM (m : Nat) (M : Mx) (c s : Nat) : Mx := elim (scal (swap M c s) c) c m
theorem swap_len (M : Mx) (c s : Nat) : (swap M c s).length = M.length := by unfold swap; simp
theorem swap_rw {M : Mx} {c s k : Nat} (hc : c < M.length) (hs : s < M.length) : rw' (swap M c s) k = if k = s then rw' M c else if k = c then rw' M s else rw' M k := by
  unfold swap
  rw [rw_set (by simpa using hs), rw_set hc]
theorem scal_len (M : Mx) (c : Nat) : (scal M c).length = M.length := by unfold scal; simp
theorem scal_rw {M : Mx} {c k : Nat} (hc : c < M.length) : rw' (scal M c) k = if k = c then (rw' M c).map (fun x => x / ent M c c) else rw' M k := by
  unfold scal
  rw [rw_set hc]
theorem map_at' {r : List Rat} {h : Rat} {j : Nat} (hj : j < r.length) : (r.map fun x => x / h).getD j 0 = r.getD j 0 / h := by
  rw [List.getD_eq_getElem?_getD, List.getD_eq_getElem?_getD, List.getElem?_map, List.getElem?_eq_getElem hj]
  rfl
structure ColOk (m w : Nat) (M : Mx) (c s : Nat) : Prop where
  W : Wf m w M
  cm : c < m
  cw : c < w
  cs : c ≤ s
  sm : s < m
  nz : ent M s c ≠ 0
section
variable {m w c s : Nat} {M : Mx}
theorem ColOk.swc (h : ColOk m w M c s) : rw' (swap M c s) c = rw' M s := by
  rw [swap_rw (by rw [h.W.1]; exact h.cm) (by rw [h.W.1]; exact h.sm)]
  by_cases e : c = s
  · rw [if_pos e, e]
  · rw [if_neg e, if_pos rfl]
theorem ColOk.wfS (h : ColOk m w M c s) : Wf m w (swap M c s) := ⟨by rw [swap_len, h.W.1], fun k hk => by
  rw [swap_rw (by rw [h.W.1]; exact h.cm) (by rw [h.W.1]; exact h.sm)]
  split
  · exact h.W.2 _ h.cm
  · split
    · exact h.W.2 _ h.sm
    · exact h.W.2 _ hk⟩
theorem ColOk.wfT (h : ColOk m w M c s) : Wf m w (scal (swap M c s) c) := ⟨by rw [scal_len, swap_len, h.W.1], fun k hk => by
  rw [scal_rw (by rw [swap_len, h.W.1]; exact h.cm)]
  split
  · rw [List.length_map]; exact h.wfS.2 _ h.cm
  · exact h.wfS.2 _ hk⟩
theorem ColOk.entc (h : ColOk m w M c s) : ent (swap M c s) c c = ent M s c := by unfold ent; rw [h.swc]
/-- the entries behind a column -/
theorem ColOk.ent (h : ColOk m w M c s) {k j : Nat} (hk : k < m) (hj : j ≤ w) : Lw.ent (colM m M c s) k j = if k = c then Lw.ent M s j / Lw.ent M s c else Lw.ent M (if k = s then c else k) j - Lw.ent M (if k = s then c else k) c * (Lw.ent M s j / Lw.ent M s c) := by
  have hcS : c < (swap M c s).length := by rw [swap_len, h.W.1]; exact h.cm
  have lS := h.wfS.2 c h.cm
  have rc : rw' (scal (swap M c s) c) c = (rw' M s).map (fun x => x / Lw.ent M s c) := by rw [scal_rw hcS, if_pos rfl, h.swc, h.entc]
  have ls := h.W.2 s h.sm
  have erj : ∀ j, j ≤ w → (rw' (scal (swap M c s) c) c).getD j 0 = Lw.ent M s j / Lw.ent M s c := fun j hj => by rw [rc, map_at' (by omega)]; rfl
  have er := elim_rw (M := scal (swap M c s) c) (c := c) m (by rw [scal_len, swap_len, h.W.1]; exact Nat.le_refl _) k
  unfold colM
  by_cases e : k = c
  · rw [if_pos e]
    unfold Lw.ent at *
    rw [er, if_neg (fun q => q.2.1 e), e]
    exact erj j hj
  · rw [if_neg e]
    have rk : rw' (scal (swap M c s) c) k = rw' M (if k = s then c else k) := by
      rw [scal_rw hcS, if_neg e, swap_rw (by rw [h.W.1]; exact h.cm) (by rw [h.W.1]; exact h.sm)]
      by_cases e2 : k = s
      · rw [if_pos e2, if_pos e2]
      · rw [if_neg e2, if_neg e, if_neg e2]
    have ek : ∀ j, Lw.ent (scal (swap M c s) c) k j = Lw.ent M (if k = s then c else k) j := fun j => by unfold Lw.ent; rw [rk]
    have lk : (rw' (scal (swap M c s) c) k).length = w + 1 := h.wfT.2 k hk
    have lc : (rw' (scal (swap M c s) c) c).length = w + 1 := h.wfT.2 c h.cm
    by_cases z : Lw.ent (scal (swap M c s) c) k c = 0
    · have e1 : Lw.ent (elim (scal (swap M c s) c) c m) k j = Lw.ent (scal (swap M c s) c) k j := by unfold Lw.ent; rw [er, if_neg (fun q => q.2.2 z)]
      rw [e1, ek, ← ek c, z, Rat.zero_mul, Rat.sub_eq_add_neg, Rat.neg_zero, Rat.add_zero]
    · have e1 : Lw.ent (elim (scal (swap M c s) c) c m) k j = Lw.ent (scal (swap M c s) c) k j - Lw.ent (scal (swap M c s) c) k c * (rw' (scal (swap M c s) c) c).getD j 0 := by
        have e0 : Lw.ent (elim (scal (swap M c s) c) c m) k j = (rw' (elim (scal (swap M c s) c) c m) k).getD j 0 := rfl
        rw [e0, er, if_pos ⟨hk, e, z⟩, comb_at (by omega) (by omega)]
        rfl
      rw [e1, ek, ek, erj j hj]
theorem ColOk.wf (h : ColOk m w M c s) : Wf m w (colM m M c s) := ⟨by unfold colM; rw [elim_len, scal_len, swap_len, h.W.1], fun k hk => by
  unfold colM
  rw [elim_rw m (by rw [scal_len, swap_len, h.W.1]; exact Nat.le_refl _)]
  split
  · rw [comb_len (by rw [h.wfT.2 k hk, h.wfT.2 c h.cm])]; exact h.wfT.2 k hk
  · exact h.wfT.2 k hk⟩
theorem ColOk.sol (h : ColOk m w M c s) {f : Nat → Rat} (q : Sol m w M f) : Sol m w (colM m M c s) f := fun k hk => by
  have ds : dt (fun j => Lw.ent M s j / Lw.ent M s c) f w = Lw.ent M s w / Lw.ent M s c := by
    have e : dt (fun j => Lw.ent M s j / Lw.ent M s c) f w = dt (fun j => (Lw.ent M s c)⁻¹ * Lw.ent M s j) f w := dt_congr fun j _ => by rw [Rat.div_def, Rat.mul_comm]
    rw [e, dt_scale, q s h.sm, Rat.div_def, Rat.mul_comm]
  rw [h.ent hk (Nat.le_refl w), dt_congr fun j hj => h.ent hk (by omega)]
  by_cases e : k = c
  · simp only [if_pos e]; exact ds
  · simp only [if_neg e]
    rw [dt_lin, ds, q _ (by split; exact h.cm; exact hk)]
theorem ColOk.hom (h : ColOk m w M c s) {f : Nat → Rat} (q : Hom m w (colM m M c s) f) : Hom m w M f := by
  have hs : dt (Lw.ent M s) f w = 0 := by
    have z := q c h.cm
    rw [dt_congr fun j hj => h.ent h.cm (by omega)] at z
    simp only [if_true] at z
    have e : dt (fun j => Lw.ent M s j / Lw.ent M s c) f w = dt (fun j => (Lw.ent M s c)⁻¹ * Lw.ent M s j) f w := dt_congr fun j _ => by rw [Rat.div_def, Rat.mul_comm]
    rw [e, dt_scale] at z
    have nz := h.nz
    have := Rat.mul_inv_cancel _ nz
    grind
  have ds : dt (fun j => Lw.ent M s j / Lw.ent M s c) f w = 0 := by
    have e : dt (fun j => Lw.ent M s j / Lw.ent M s c) f w = dt (fun j => (Lw.ent M s c)⁻¹ * Lw.ent M s j) f w := dt_congr fun j _ => by rw [Rat.div_def, Rat.mul_comm]
    rw [e, dt_scale, hs, Rat.mul_zero]
  intro k hk
  by_cases ks : k = s
  · rw [ks]; exact hs
  · -- the row that k has become
    have key : ∀ k2, k2 < m → k2 ≠ c → (if k2 = s then c else k2) = k → dt (Lw.ent M k) f w = 0 := fun k2 h2 hc2 e2 => by
      have z := q k2 h2
      rw [dt_congr fun j hj => h.ent h2 (by omega)] at z
      simp only [if_neg hc2] at z
      rw [e2, dt_lin, ds, Rat.mul_zero] at z
      grind
    by_cases kc : k = c
    · exact key s h.sm (fun e => ks (kc.trans e.symm)) (by rw [if_pos rfl, kc])
    · exact key k hk kc (by rw [if_neg ks])
theorem ColOk.red (h : ColOk m w M c s) (q : Red m M c) : Red m (colM m M c s) (c + 1) := fun k hk j hj => by
  rw [h.ent hk (by have := h.cw; omega)]
  have nz := h.nz
  have dd : Lw.ent M s c / Lw.ent M s c = 1 := by rw [Rat.div_def, Rat.mul_inv_cancel _ nz]
  by_cases jc : j = c
  · rw [jc, dd]
    by_cases e : k = c
    · rw [if_pos e, if_pos e]
    · rw [if_neg e, if_neg e]; grind
  · have js := h.cs
    have z : Lw.ent M s j = 0 := by rw [q s h.sm j (by omega), if_neg (by omega)]
    rw [z, Rat.div_def, Rat.zero_mul, Rat.mul_zero, Rat.sub_eq_add_neg, Rat.neg_zero, Rat.add_zero]
    by_cases e : k = c
    · rw [if_pos e, if_neg (by omega)]
    · rw [if_neg e]
      by_cases e2 : k = s
      · rw [if_pos e2, q c h.cm j (by omega), if_neg (by omega), if_neg (by omega)]
      · rw [if_neg e2, q k hk j (by omega)]
end
/-- a column without a spot would leave a second answer -/
theorem spot_there {m w c : Nat} {M : Mx} (hcw : c < w) (q : Red m M c) (inj : Inj m w M) : ∃ i, i < m - c ∧ ent M (c + i) c ≠ 0 := by
  refine Classical.byContradiction fun no => ?_
  have hz : ∀ k, c ≤ k → k < m → ent M k c = 0 := fun k h1 h2 => Classical.byContradiction fun e => no ⟨k - c, by omega, by rw [show c + (k - c) = k by omega]; exact e⟩
  have key : ∀ k, k < m → ∀ n, n ≤ w → dt (ent M k) (fun j => if j < c then - ent M j c else if j = c then 1 else 0) n = if n ≤ c then (if k < n then - ent M k c else 0) else 0 := by
    intro k hk n
    induction n with
    | zero => intro _; rw [if_pos (by omega), if_neg (by omega)]; rfl
    | succ n ih =>
      intro hn
      have ih := ih (by omega)
      show dt (ent M k) _ n + ent M k n * (if n < c then - ent M n c else if n = c then 1 else 0) = _
      rw [ih]
      by_cases h1 : n < c
      · rw [if_pos (show n ≤ c by omega), if_pos h1, if_pos (show n + 1 ≤ c by omega), q k hk n h1]
        by_cases h2 : k = n
        · subst h2; rw [if_neg (by omega), if_pos rfl, if_pos (by omega)]; grind
        · rw [if_neg h2]
          by_cases h3 : k < n
          · rw [if_pos h3, if_pos (by omega)]; grind
          · rw [if_neg h3, if_neg (by omega)]; grind
      · by_cases h2 : n = c
        · subst h2
          by_cases h3 : k < n
          · rw [if_pos (Nat.le_refl n), if_pos h3, if_neg (Nat.lt_irrefl n), if_pos rfl, if_neg (show ¬ n + 1 ≤ n by omega)]; grind
          · rw [if_pos (Nat.le_refl n), if_neg h3, if_neg (Nat.lt_irrefl n), if_pos rfl, if_neg (show ¬ n + 1 ≤ n by omega), hz k (by omega) hk]; grind
        · rw [if_neg (by omega), if_neg h1, if_neg h2, if_neg (by omega)]; grind
  have := inj (fun j => if j < c then - ent M j c else if j = c then 1 else 0) (fun k hk => by rw [key k hk w (Nat.le_refl _), if_neg (by omega)]) c hcw
  simp at this
/-- sizes -/
def SzM (m J : Nat) (M : Mx) : Prop := ∀ k, k < m → SzR J (rw' M k)
theorem SzR.up {J L : Nat} {r : List Rat} (h : SzR J r) (hl : J ≤ L) : SzR L r := fun x hx => (h x hx).mono hl
def colB : SVt := (sSeq (sSetF 6 (mLc (iRange2 (mVar 3) (mB lenD (lCons (mVar 0) lNil))) (gVar 5) (mT (m2 neD (m2 ixD (m2 ixD (m2 ixD (mVar 0) (mVar 5)) (mVar 4)) (mC (.int 0))) (mC (.int 0)))) (mVar 5) [5])) (sSeq (sIf (mT (m2 eqD (mB lenD (lCons (mVar 6) lNil)) (mC (.int 0)))) (sRet (mC .non)) sNil) (sSeq (sSet (gTup' 2 (gCons' (gSub' 0 (mVar 3)) (gCons' (gSub' 0 (m2 ixD (mVar 6) (mC (.int 0)))) gNil'))) (mTup (lCons (m2 ixD (mVar 0) (m2 ixD (mVar 6) (mC (.int 0)))) (lCons (m2 ixD (mVar 0) (mVar 3)) lNil)))) (sSeq (sSet (gVar 7) (m2 ixD (m2 ixD (mVar 0) (mVar 3)) (mVar 4))) (sSeq (sSetIx 0 (mVar 3) (mFr (mLc (iSq (m2 ixD (mVar 0) (mVar 3))) (gVar 8) tYes' (mCall den_over (lCons (mVar 8) (lCons (mVar 7) lNil))) [8]))) (sSeq (sFor (iRange1 (mB lenD (lCons (mVar 0) lNil))) (gVar 5) elB) (sAug 3 (fun i j => i + j) (mC (.int 1)))))))))
theorem rngS' (n : Nat) : rngL 0 n = (List.range' 0 n).map fun (i : Nat) => D.int (0 + (i : Int)) := by unfold rngL; rw [List.range_eq_range']
theorem SzM.swap {m w c s J : Nat} {M : Mx} (h : ColOk m w M c s) (q : SzM m J M) : SzM m J (swap M c s) := fun k hk => by
  rw [swap_rw (by rw [h.W.1]; exact h.cm) (by rw [h.W.1]; exact h.sm)]
  split
  · exact q _ h.cm
  · split
    · exact q _ h.sm
    · exact q _ hk
theorem scal_sz {m w c s J : Nat} {M : Mx} (h : ColOk m w M c s) (q : SzM m J M) (hJ : 2 * J ≤ 8990) : SzR (2 * J) (rw' (scal (swap M c s) c) c) ∧ ∀ k, k < m → k ≠ c → SzR J (rw' (scal (swap M c s) c) k) := by
  have qs := q.swap h
  have hcS : c < (swap M c s).length := by rw [swap_len, h.W.1]; exact h.cm
  constructor
  · rw [scal_rw hcS, if_pos rfl]
    intro x hx
    obtain ⟨y, hy, rfl⟩ := List.mem_map.mp hx
    have sy := qs c h.cm y hy
    have lS := h.wfS.2 c h.cm
    have sh' := qs c h.cm _ (mem_rw (show c < (rw' (swap M c s) c).length by have := h.cw; omega))
    have nz : ((rw' (swap M c s) c).getD c 0).num ≠ 0 := fun e => h.nz (by
      have z : ent (swap M c s) c c = 0 := Rat.num_eq_zero.mp e
      rw [h.entc] at z; exact z)
    have := (over_eq sy sh' nz (by omega)).2
    exact this.mono (by omega)
  · intro k hk e
    rw [scal_rw hcS, if_neg e]
    exact qs k hk
theorem col_sz {m w c s J : Nat} {M : Mx} (h : ColOk m w M c s) (q : SzM m J M) (hJ : 4 * J ≤ 8990) : SzM m (4 * J + 1) (colM m M c s) := fun k hk => by
  obtain ⟨z1, z2⟩ := scal_sz h q (by omega)
  unfold colM
  rw [elim_rw m (by rw [scal_len, swap_len, h.W.1]; exact Nat.le_refl _)]
  split
  · rename_i e
    intro x hx
    unfold comb at hx
    obtain ⟨p, hp, rfl⟩ := List.mem_map.mp hx
    have h1 := z2 k hk e.2.1 p.1 (List.of_mem_zip hp).1
    have h2 := z1 p.2 (List.of_mem_zip hp).2
    have hb := z2 k hk e.2.1 _ (mem_rw (show c < (rw' (scal (swap M c s) c) k).length by rw [h.wfT.2 k hk]; have := h.cw; omega))
    have t := times_eq hb h2 (by omega)
    have l := (less_eq h1 t.2 (by omega)).2
    exact l.mono (by omega)
  · by_cases e : k = c
    · rw [e]; exact z1.up (by omega)
    · exact (z2 k hk e).up (by omega)
theorem col_step {m w c J i : Nat} {M : Mx} {rest : List Nat} (hs : ((List.range (m - c)).filter fun i => decide (ent M (c + i) c ≠ 0)) = i :: rest) (h : ColOk m w M c (c + i)) (q : SzM m J M) (hJ : 4 * J ≤ 8990) (hm : m ≤ 1000) (hw : w ≤ 1000) {o1 o2 : Option SV} {x5 x6 x7 x8 x9 x10 : Option D} :
    ∃ y5 y6 y7 y9, colB [some (.o false (.lst (mD M))), o1, o2, some (.v (.int (c : Int))), some (.v (.int (c : Int))), ov x5, oo x6, ov x7, ov x8, ov x9, ov x10] = some (.nx [some (.o false (.lst (mD (colM m M c (c + i))))), o1, o2, some (.v (.int ((c + 1 : Nat) : Int))), some (.v (.int (c : Int))), ov y5, oo y6, ov y7, ov x8, ov y9, ov x10]) := by
  have hl := h.W.1
  have hcm := h.cm
  have hcw := h.cw
  have hsm := h.sm
  have c1 : lcL (gVar 5) (mT (m2 neD (m2 ixD (m2 ixD (m2 ixD (mVar 0) (mVar 5)) (mVar 4)) (mC (.int 0))) (mC (.int 0)))) (mVar 5) [5] (rngL (c : Int) (m - c)) [some (.o false (.lst (mD M))), o1, o2, some (.v (.int (c : Int))), some (.v (.int (c : Int))), ov x5, oo x6, ov x7, ov x8, ov x9, ov x10] = some (((List.range (m - c)).filter fun i => decide (ent M (c + i) c ≠ 0)).map (fun (i : Nat) => D.int ((c : Int) + (i : Int))), [some (.o false (.lst (mD M))), o1, o2, some (.v (.int (c : Int))), some (.v (.int (c : Int))), ov x5, oo x6, ov x7, ov x8, ov x9, ov x10]) :=
    lc_filtE (fun (i : Nat) => D.int ((c : Int) + (i : Int))) _ (fun i => decide (ent M (c + i) c ≠ 0)) fun i hi => by
      have hi := List.mem_range.mp hi
      have a := mD_at (M := M) (k := c + i) (by omega)
      rw [show ((c + i : Nat) : Int) = (c : Int) + (i : Int) by omega] at a
      have r := row_at (r := rw' M (c + i)) (c := c) (by rw [h.W.2 _ (by omega)]; omega)
      by_cases z : (rw' M (c + i)).getD c 0 = 0
      · have z' : ¬ ent M (c + i) c ≠ 0 := fun e => e z
        simp -implicitDefEqProofs only [e_bdo, e_bdn, e_bd, e_ob, e_obn, e_grt, e_grf, e_set0, e_setS, e_can0, e_can1, e_can2, e_can3, e_canS, e_own0, e_ownS, e_iol0, e_iolS, e_gt0, e_gtS, e_var, e_rdv, e_rdo, e_c, e_drv, e_drs, e_drov, e_droo, e_tvv, e_tvs, e_tvov, e_tvoo, e_tvl0, e_tvl1, e_drl0, e_drl1, e_m2, e_m2F, e_m1, e_mT, e_tbo, e_mFr, e_nil, e_cons, e_mB, e_mBF, e_tup, e_lst, e_call, e_callF, e_callIO, e_ioo, e_and, e_andt, e_andf, e_or, e_ort, e_orf, e_not, e_noto, e_bot, e_bof, e_if, e_tand, e_tor, e_tnot, e_isi, e_seq, e_seqn, e_seqr, e_seqb, e_seqc, e_seqo, e_snil, e_sno, e_sif, e_ift, e_iff, e_set, e_setF, e_ret, e_expr, e_gvar, e_par, e_par2, e_par3o, e_par3, e_gtup, e_gcons, e_gnil, e_for, e_sq, e_sql, e_sqt, e_r1, e_rgo, e_r2, e_rgo2, e_frn, e_frv, e_fro, e_fr1, e_fr2, e_wi1, e_wi2, e_re1, e_re2, e_lc, e_lcT, e_lctt, e_lctf, e_slL, e_slo, e_oNo, e_oS, e_oso, e_cut1, e_rev, e_rvo, e_ch, e_cht, e_chf, e_six, e_sxo, e_ixs, e_lens, e_lsts, e_lstl, e_lstt, e_pow, e_eqb, e_neb, e_ntb, e_isbb, e_isn, e_non, e_gt2, e_tint_non, e_tint_bl, e_tint_int, e_tint_str, e_tint_tup, e_tint_lst, e_tint_scr, e_tbool_non, e_tbool_bl, e_tbool_int, e_tbool_str, e_tbool_tup, e_tbool_lst, e_tbool_scr, e_tstr_non, e_tstr_bl, e_tstr_int, e_tstr_str, e_tstr_tup, e_tstr_lst, e_tstr_scr, e_ttuple_non, e_ttuple_bl, e_ttuple_int, e_ttuple_str, e_ttuple_tup, e_ttuple_lst, e_ttuple_scr, e_tlist_non, e_tlist_bl, e_tlist_int, e_tlist_str, e_tlist_tup, e_tlist_lst, e_tlist_scr, e_forn, e_fcn, e_fcr, e_fcc, e_fcb, e_revT, e_rvT, e_lr, e_tr, e_rg1, e_rg2, e_rgo1, e_rg2o, e_en, e_enl, e_ent, e_zp, e_zpl, e_zpt, e_isi2, e_catT, e_catL, e_aug, e_ago, e_agn, e_meth1, e_meo, e_apd, e_dc, e_dcT, e_dctt, e_dctf, e_koi, e_kos, e_dg, e_augix, e_aug2, e_sl, e_sl2l, e_sl2t, e_repT, e_repL, e_yes, e_add, e_sub, e_mul, e_fdiv, e_mod, e_cmp, e_neg, e_ixt, e_ixl, e_at0, e_at1, e_at2, e_at3, e_eqi, e_nei, e_abs, e_int, e_intb, e_lenl, e_lent, e_tupl, e_tupt, e_can4, e_gtn, e_fori, e_fio, e_setdc, e_sdco, e_get2, e_isdk, e_geto, e_gtos, e_gton, e_newd, e_disp1, e_parok, e_parov, e_parvo, e_paroo, e_indc, e_nindc, e_max2, e_min2, e_meth0, e_me0, items_nil, items_cons, keyD_i, e_ch3, e_c3t, e_c3f, e_rgd2, e_rgv, e_rgvo, e_gsub, e_sub2, e_index, e_isl, e_lc2, bne_self_eq_false, beq_self_eq_true, Nat.reduceBEq, Nat.reduceEqDiff, List.length_cons, List.length_nil, Bool.and_true, Bool.true_and, lo1, lo2, lo3, lo4, lo5, decide_true, decide_false, fino2_r, fino_r, outo_r, outo_n, List.set_cons_zero, List.set_cons_succ, fino_n, Bool.not_true, Bool.not_false, a, r, sh_ix0, e_nei, num0, decide_eq_true z, decide_eq_false z']
        rfl
      · have z' : ent M (c + i) c ≠ 0 := z
        simp -implicitDefEqProofs only [e_bdo, e_bdn, e_bd, e_ob, e_obn, e_grt, e_grf, e_set0, e_setS, e_can0, e_can1, e_can2, e_can3, e_canS, e_own0, e_ownS, e_iol0, e_iolS, e_gt0, e_gtS, e_var, e_rdv, e_rdo, e_c, e_drv, e_drs, e_drov, e_droo, e_tvv, e_tvs, e_tvov, e_tvoo, e_tvl0, e_tvl1, e_drl0, e_drl1, e_m2, e_m2F, e_m1, e_mT, e_tbo, e_mFr, e_nil, e_cons, e_mB, e_mBF, e_tup, e_lst, e_call, e_callF, e_callIO, e_ioo, e_and, e_andt, e_andf, e_or, e_ort, e_orf, e_not, e_noto, e_bot, e_bof, e_if, e_tand, e_tor, e_tnot, e_isi, e_seq, e_seqn, e_seqr, e_seqb, e_seqc, e_seqo, e_snil, e_sno, e_sif, e_ift, e_iff, e_set, e_setF, e_ret, e_expr, e_gvar, e_par, e_par2, e_par3o, e_par3, e_gtup, e_gcons, e_gnil, e_for, e_sq, e_sql, e_sqt, e_r1, e_rgo, e_r2, e_rgo2, e_frn, e_frv, e_fro, e_fr1, e_fr2, e_wi1, e_wi2, e_re1, e_re2, e_lc, e_lcT, e_lctt, e_lctf, e_slL, e_slo, e_oNo, e_oS, e_oso, e_cut1, e_rev, e_rvo, e_ch, e_cht, e_chf, e_six, e_sxo, e_ixs, e_lens, e_lsts, e_lstl, e_lstt, e_pow, e_eqb, e_neb, e_ntb, e_isbb, e_isn, e_non, e_gt2, e_tint_non, e_tint_bl, e_tint_int, e_tint_str, e_tint_tup, e_tint_lst, e_tint_scr, e_tbool_non, e_tbool_bl, e_tbool_int, e_tbool_str, e_tbool_tup, e_tbool_lst, e_tbool_scr, e_tstr_non, e_tstr_bl, e_tstr_int, e_tstr_str, e_tstr_tup, e_tstr_lst, e_tstr_scr, e_ttuple_non, e_ttuple_bl, e_ttuple_int, e_ttuple_str, e_ttuple_tup, e_ttuple_lst, e_ttuple_scr, e_tlist_non, e_tlist_bl, e_tlist_int, e_tlist_str, e_tlist_tup, e_tlist_lst, e_tlist_scr, e_forn, e_fcn, e_fcr, e_fcc, e_fcb, e_revT, e_rvT, e_lr, e_tr, e_rg1, e_rg2, e_rgo1, e_rg2o, e_en, e_enl, e_ent, e_zp, e_zpl, e_zpt, e_isi2, e_catT, e_catL, e_aug, e_ago, e_agn, e_meth1, e_meo, e_apd, e_dc, e_dcT, e_dctt, e_dctf, e_koi, e_kos, e_dg, e_augix, e_aug2, e_sl, e_sl2l, e_sl2t, e_repT, e_repL, e_yes, e_add, e_sub, e_mul, e_fdiv, e_mod, e_cmp, e_neg, e_ixt, e_ixl, e_at0, e_at1, e_at2, e_at3, e_eqi, e_nei, e_abs, e_int, e_intb, e_lenl, e_lent, e_tupl, e_tupt, e_can4, e_gtn, e_fori, e_fio, e_setdc, e_sdco, e_get2, e_isdk, e_geto, e_gtos, e_gton, e_newd, e_disp1, e_parok, e_parov, e_parvo, e_paroo, e_indc, e_nindc, e_max2, e_min2, e_meth0, e_me0, items_nil, items_cons, keyD_i, e_ch3, e_c3t, e_c3f, e_rgd2, e_rgv, e_rgvo, e_gsub, e_sub2, e_index, e_isl, e_lc2, bne_self_eq_false, beq_self_eq_true, Nat.reduceBEq, Nat.reduceEqDiff, List.length_cons, List.length_nil, Bool.and_true, Bool.true_and, lo1, lo2, lo3, lo4, lo5, decide_true, decide_false, fino2_r, fino_r, outo_r, outo_n, List.set_cons_zero, List.set_cons_succ, fino_n, Bool.not_true, Bool.not_false, a, r, sh_ix0, e_nei, num0, decide_eq_false z, decide_eq_true z']
        rfl
  rw [hs, List.map_cons] at c1
  have sl := congrArg List.length hs
  have a1 := mD_at (M := M) (k := c + i) (by omega)
  rw [show ((c + i : Nat) : Int) = (c : Int) + (i : Int) by omega] at a1
  have a2 := mD_at (M := M) (k := c) (by omega)
  have i1 := ixn_of (show c < m from hcm)
  have i2 := ixn_of (show c + i < m from hsm)
  rw [show ((c + i : Nat) : Int) = (c : Int) + (i : Int) by omega] at i2
  have sw : (List.set M c (rw' M (c + i))).set (c + i) (rw' M c) = swap M c (c + i) := rfl
  have ls := h.wfS.2 c hcm
  have lsl : (swap M c (c + i)).length = m := h.wfS.1
  have a3 := mD_at (M := swap M c (c + i)) (k := c) (by omega)
  have r3 := row_at (r := rw' (swap M c (c + i)) c) (c := c) (by omega)
  have qs := q.swap h
  have nz : ((rw' (swap M c (c + i)) c).getD c 0).num ≠ 0 := fun e => h.nz (by
    have z : ent (swap M c (c + i)) c c = 0 := Rat.num_eq_zero.mp e
    rw [h.entc] at z; exact z)
  have c2 : lcL (gVar 8) tYes' (mCall den_over (lCons (mVar 8) (lCons (mVar 7) lNil))) [8] ((rw' (swap M c (c + i)) c).map sh) [some (.o false (.lst (mD (swap M c (c + i))))), o1, o2, some (.v (.int (c : Int))), some (.v (.int (c : Int))), ov x5, some (.o false (.lst (D.int ((c : Int) + (i : Int)) :: rest.map fun (i : Nat) => D.int ((c : Int) + (i : Int))))), some (.v (sh ((rw' (swap M c (c + i)) c).getD c 0))), ov x8, ov x9, ov x10] = some (((rw' (swap M c (c + i)) c).map fun x => x / ent (swap M c (c + i)) c c).map sh, [some (.o false (.lst (mD (swap M c (c + i))))), o1, o2, some (.v (.int (c : Int))), some (.v (.int (c : Int))), ov x5, some (.o false (.lst (D.int ((c : Int) + (i : Int)) :: rest.map fun (i : Nat) => D.int ((c : Int) + (i : Int))))), some (.v (sh ((rw' (swap M c (c + i)) c).getD c 0))), ov x8, ov x9, ov x10]) := by
    rw [List.map_map]
    exact lc_mapE sh _ fun x hx => by
      have sy := qs c hcm x hx
      have sz := qs c hcm _ (mem_rw (show c < (rw' (swap M c (c + i)) c).length by omega))
      simp -implicitDefEqProofs only [e_bdo, e_bdn, e_bd, e_ob, e_obn, e_grt, e_grf, e_set0, e_setS, e_can0, e_can1, e_can2, e_can3, e_canS, e_own0, e_ownS, e_iol0, e_iolS, e_gt0, e_gtS, e_var, e_rdv, e_rdo, e_c, e_drv, e_drs, e_drov, e_droo, e_tvv, e_tvs, e_tvov, e_tvoo, e_tvl0, e_tvl1, e_drl0, e_drl1, e_m2, e_m2F, e_m1, e_mT, e_tbo, e_mFr, e_nil, e_cons, e_mB, e_mBF, e_tup, e_lst, e_call, e_callF, e_callIO, e_ioo, e_and, e_andt, e_andf, e_or, e_ort, e_orf, e_not, e_noto, e_bot, e_bof, e_if, e_tand, e_tor, e_tnot, e_isi, e_seq, e_seqn, e_seqr, e_seqb, e_seqc, e_seqo, e_snil, e_sno, e_sif, e_ift, e_iff, e_set, e_setF, e_ret, e_expr, e_gvar, e_par, e_par2, e_par3o, e_par3, e_gtup, e_gcons, e_gnil, e_for, e_sq, e_sql, e_sqt, e_r1, e_rgo, e_r2, e_rgo2, e_frn, e_frv, e_fro, e_fr1, e_fr2, e_wi1, e_wi2, e_re1, e_re2, e_lc, e_lcT, e_lctt, e_lctf, e_slL, e_slo, e_oNo, e_oS, e_oso, e_cut1, e_rev, e_rvo, e_ch, e_cht, e_chf, e_six, e_sxo, e_ixs, e_lens, e_lsts, e_lstl, e_lstt, e_pow, e_eqb, e_neb, e_ntb, e_isbb, e_isn, e_non, e_gt2, e_tint_non, e_tint_bl, e_tint_int, e_tint_str, e_tint_tup, e_tint_lst, e_tint_scr, e_tbool_non, e_tbool_bl, e_tbool_int, e_tbool_str, e_tbool_tup, e_tbool_lst, e_tbool_scr, e_tstr_non, e_tstr_bl, e_tstr_int, e_tstr_str, e_tstr_tup, e_tstr_lst, e_tstr_scr, e_ttuple_non, e_ttuple_bl, e_ttuple_int, e_ttuple_str, e_ttuple_tup, e_ttuple_lst, e_ttuple_scr, e_tlist_non, e_tlist_bl, e_tlist_int, e_tlist_str, e_tlist_tup, e_tlist_lst, e_tlist_scr, e_forn, e_fcn, e_fcr, e_fcc, e_fcb, e_revT, e_rvT, e_lr, e_tr, e_rg1, e_rg2, e_rgo1, e_rg2o, e_en, e_enl, e_ent, e_zp, e_zpl, e_zpt, e_isi2, e_catT, e_catL, e_aug, e_ago, e_agn, e_meth1, e_meo, e_apd, e_dc, e_dcT, e_dctt, e_dctf, e_koi, e_kos, e_dg, e_augix, e_aug2, e_sl, e_sl2l, e_sl2t, e_repT, e_repL, e_yes, e_add, e_sub, e_mul, e_fdiv, e_mod, e_cmp, e_neg, e_ixt, e_ixl, e_at0, e_at1, e_at2, e_at3, e_eqi, e_nei, e_abs, e_int, e_intb, e_lenl, e_lent, e_tupl, e_tupt, e_can4, e_gtn, e_fori, e_fio, e_setdc, e_sdco, e_get2, e_isdk, e_geto, e_gtos, e_gton, e_newd, e_disp1, e_parok, e_parov, e_parvo, e_paroo, e_indc, e_nindc, e_max2, e_min2, e_meth0, e_me0, items_nil, items_cons, keyD_i, e_ch3, e_c3t, e_c3f, e_rgd2, e_rgv, e_rgvo, e_gsub, e_sub2, e_index, e_isl, e_lc2, bne_self_eq_false, beq_self_eq_true, Nat.reduceBEq, Nat.reduceEqDiff, List.length_cons, List.length_nil, Bool.and_true, Bool.true_and, lo1, lo2, lo3, lo4, lo5, decide_true, decide_false, fino2_r, fino_r, outo_r, outo_n, List.set_cons_zero, List.set_cons_succ, fino_n, Bool.not_true, Bool.not_false, (over_eq sy sz nz (by omega)).1]
      rfl
  obtain ⟨z1, z2⟩ := scal_sz h q (by omega)
  obtain ⟨y5, y9, fe⟩ := el_loop (J := J) h.wfT hcm hcw hJ hm hw z2 z1 (o1 := o1) (o2 := o2) (o6 := some (.o false (.lst (D.int ((c : Int) + (i : Int)) :: rest.map fun (i : Nat) => D.int ((c : Int) + (i : Int)))))) (o7 := some (.v (sh ((rw' (swap M c (c + i)) c).getD c 0)))) (x8 := x8) (x10 := x10) m 0 x5 x9 (by omega)
  rw [← rngS'] at fe
  have fe : forL (gVar 5) elB (rngL 0 m) [some (.o false (.lst (mD (scal (swap M c (c + i)) c)))), o1, o2, some (.v (.int (c : Int))), some (.v (.int (c : Int))), ov x5, some (.o false (.lst (D.int ((c : Int) + (i : Int)) :: rest.map fun (i : Nat) => D.int ((c : Int) + (i : Int))))), some (.v (sh ((rw' (swap M c (c + i)) c).getD c 0))), ov x8, ov x9, ov x10] = _ := fe
  have sc : List.set (swap M c (c + i)) c ((rw' (swap M c (c + i)) c).map fun x => x / ent (swap M c (c + i)) c c) = scal (swap M c (c + i)) c := rfl
  have rl : ((rw' (swap M c (c + i)) c).map sh).length = w + 1 := by rw [List.length_map, ls]
  have sl1 : (scal (swap M c (c + i)) c).length = m := h.wfT.1
  refine ⟨y5, some (.lst (D.int ((c : Int) + (i : Int)) :: rest.map fun (i : Nat) => D.int ((c : Int) + (i : Int)))), some (sh ((rw' (swap M c (c + i)) c).getD c 0)), y9, ?_⟩
  unfold colB
  simp -implicitDefEqProofs only [e_bdo, e_bdn, e_bd, e_ob, e_obn, e_grt, e_grf, e_set0, e_setS, e_can0, e_can1, e_can2, e_can3, e_canS, e_own0, e_ownS, e_iol0, e_iolS, e_gt0, e_gtS, e_var, e_rdv, e_rdo, e_c, e_drv, e_drs, e_drov, e_droo, e_tvv, e_tvs, e_tvov, e_tvoo, e_tvl0, e_tvl1, e_drl0, e_drl1, e_m2, e_m2F, e_m1, e_mT, e_tbo, e_mFr, e_nil, e_cons, e_mB, e_mBF, e_tup, e_lst, e_call, e_callF, e_callIO, e_ioo, e_and, e_andt, e_andf, e_or, e_ort, e_orf, e_not, e_noto, e_bot, e_bof, e_if, e_tand, e_tor, e_tnot, e_isi, e_seq, e_seqn, e_seqr, e_seqb, e_seqc, e_seqo, e_snil, e_sno, e_sif, e_ift, e_iff, e_set, e_setF, e_ret, e_expr, e_gvar, e_par, e_par2, e_par3o, e_par3, e_gtup, e_gcons, e_gnil, e_for, e_sq, e_sql, e_sqt, e_r1, e_rgo, e_r2, e_rgo2, e_frn, e_frv, e_fro, e_fr1, e_fr2, e_wi1, e_wi2, e_re1, e_re2, e_lc, e_lcT, e_lctt, e_lctf, e_slL, e_slo, e_oNo, e_oS, e_oso, e_cut1, e_rev, e_rvo, e_ch, e_cht, e_chf, e_six, e_sxo, e_ixs, e_lens, e_lsts, e_lstl, e_lstt, e_pow, e_eqb, e_neb, e_ntb, e_isbb, e_isn, e_non, e_gt2, e_tint_non, e_tint_bl, e_tint_int, e_tint_str, e_tint_tup, e_tint_lst, e_tint_scr, e_tbool_non, e_tbool_bl, e_tbool_int, e_tbool_str, e_tbool_tup, e_tbool_lst, e_tbool_scr, e_tstr_non, e_tstr_bl, e_tstr_int, e_tstr_str, e_tstr_tup, e_tstr_lst, e_tstr_scr, e_ttuple_non, e_ttuple_bl, e_ttuple_int, e_ttuple_str, e_ttuple_tup, e_ttuple_lst, e_ttuple_scr, e_tlist_non, e_tlist_bl, e_tlist_int, e_tlist_str, e_tlist_tup, e_tlist_lst, e_tlist_scr, e_forn, e_fcn, e_fcr, e_fcc, e_fcb, e_revT, e_rvT, e_lr, e_tr, e_rg1, e_rg2, e_rgo1, e_rg2o, e_en, e_enl, e_ent, e_zp, e_zpl, e_zpt, e_isi2, e_catT, e_catL, e_aug, e_ago, e_agn, e_meth1, e_meo, e_apd, e_dc, e_dcT, e_dctt, e_dctf, e_koi, e_kos, e_dg, e_augix, e_aug2, e_sl, e_sl2l, e_sl2t, e_repT, e_repL, e_yes, e_add, e_sub, e_mul, e_fdiv, e_mod, e_cmp, e_neg, e_ixt, e_ixl, e_at0, e_at1, e_at2, e_at3, e_eqi, e_nei, e_abs, e_int, e_intb, e_lenl, e_lent, e_tupl, e_tupt, e_can4, e_gtn, e_fori, e_fio, e_setdc, e_sdco, e_get2, e_isdk, e_geto, e_gtos, e_gton, e_newd, e_disp1, e_parok, e_parov, e_parvo, e_paroo, e_indc, e_nindc, e_max2, e_min2, e_meth0, e_me0, items_nil, items_cons, keyD_i, e_ch3, e_c3t, e_c3f, e_rgd2, e_rgv, e_rgvo, e_gsub, e_sub2, e_index, e_isl, e_lc2, bne_self_eq_false, beq_self_eq_true, Nat.reduceBEq, Nat.reduceEqDiff, List.length_cons, List.length_nil, Bool.and_true, Bool.true_and, lo1, lo2, lo3, lo4, lo5, decide_true, decide_false, fino2_r, fino_r, outo_r, outo_n, List.set_cons_zero, List.set_cons_succ, fino_n, Bool.not_true, Bool.not_false, e_can4, mD_len, hl, show rgOk (c : Int) = true from decide_eq_true (by omega), show rgOk (m : Int) = true from decide_eq_true (by omega), show ((m : Int) - (c : Int)).toNat = m - c by omega, rng_len, e_fro, show lineOk (m - c) = true from decide_eq_true (by omega), c1, e_eqi, show decide ((((rest.map fun (i : Nat) => D.int ((c : Int) + (i : Int))).length + 1 : Nat) : Int) = 0) = false from decide_eq_false (by omega), a1, a2, i1, i2, List.length_set, mD_set, sw, a3, r3, rl, show lineOk (w + 1) = true from decide_eq_true (by omega), c2, lsl, sc, e_for, sl1, Int.toNat_natCast, fe]
  rfl
/-- how sizes grow, column by column -/
def grow (J : Nat) : Nat → Nat
  | 0 => J
  | n + 1 => 4 * grow J n + 1
theorem grow_le {J : Nat} : ∀ {a b : Nat}, a ≤ b → grow J a ≤ grow J b
  | a, 0, h => by rw [show a = 0 by omega]; exact Nat.le_refl _
  | a, b + 1, h => by
    by_cases e : a = b + 1
    · rw [e]; exact Nat.le_refl _
    · have := grow_le (J := J) (show a ≤ b by omega)
      show _ ≤ 4 * grow J b + 1
      omega
theorem cols {m w J : Nat} (hJ : 4 * grow J (w - 1) ≤ 8990) (hm : m ≤ 1000) (hw : w ≤ 1000) {f : Nat → Rat} {o1 o2 : Option SV} {x8 x10 : Option D} : ∀ (n c : Nat) (M : Mx) (x4 x5 x6 x7 x9 : Option D), c + n = w → Wf m w M → SzM m (grow J c) M → Sol m w M f → Inj m w M → Red m M c → ∃ N y4 y5 y6 y7 y9, Wf m w N ∧ Sol m w N f ∧ Red m N w ∧ w ≤ m ∧ SzM m (grow J w) N ∧ forL (gVar 4) colB ((List.range' c n).map fun (i : Nat) => D.int (0 + (i : Int))) [some (.o false (.lst (mD M))), o1, o2, some (.v (.int (c : Int))), ov x4, ov x5, oo x6, ov x7, ov x8, ov x9, ov x10] = some (.nx [some (.o false (.lst (mD N))), o1, o2, some (.v (.int (w : Int))), ov y4, ov y5, oo y6, ov y7, ov x8, ov y9, ov x10])
  | 0, c, M, x4, x5, x6, x7, x9, e, W, S, q, inj, red => by
    have e' : c = w := by omega
    subst e'
    refine ⟨M, x4, x5, x6, x7, x9, W, q, red, ?_, S, rfl⟩
    refine Classical.byContradiction fun no => ?_
    obtain ⟨i, hi, _⟩ := spot_there (m := m) (w := c) (c := c - 1) (M := M) (by omega) (fun k hk j hj => red k hk j (by omega)) inj
    omega
  | n + 1, c, M, x4, x5, x6, x7, x9, e, W, S, q, inj, red => by
    obtain ⟨i0, hi0, hz0⟩ := spot_there (m := m) (w := w) (c := c) (M := M) (by omega) red inj
    obtain ⟨i, rest, hsp⟩ : ∃ i rest, ((List.range (m - c)).filter fun i => decide (ent M (c + i) c ≠ 0)) = i :: rest := by
      cases z : (List.range (m - c)).filter fun i => decide (ent M (c + i) c ≠ 0) with
      | nil =>
        have := List.filter_eq_nil_iff.mp z i0 (List.mem_range.mpr hi0)
        simp [hz0] at this
      | cons i rest => exact ⟨i, rest, rfl⟩
    have mem : i ∈ (List.range (m - c)).filter fun i => decide (ent M (c + i) c ≠ 0) := by rw [hsp]; exact List.mem_cons_self
    obtain ⟨m1, m2⟩ := List.mem_filter.mp mem
    have m1 := List.mem_range.mp m1
    have m2 := of_decide_eq_true m2
    have ok : ColOk m w M c (c + i) := ⟨W, by omega, by omega, by omega, by omega, m2⟩
    have gl := grow_le (J := J) (show c ≤ w - 1 by omega)
    obtain ⟨y5, y6, y7, y9, st⟩ := col_step hsp ok S (by omega) hm hw (o1 := o1) (o2 := o2) (x5 := x5) (x6 := x6) (x7 := x7) (x8 := x8) (x9 := x9) (x10 := x10)
    obtain ⟨N, z4, z5, z6, z7, z9, WN, SN, RN, hwm, sz, fe⟩ := cols hJ hm hw (f := f) (o1 := o1) (o2 := o2) (x8 := x8) (x10 := x10) n (c + 1) (colM m M c (c + i)) (some (.int (c : Int))) y5 y6 y7 y9 (by omega) ok.wf (col_sz ok S (by omega)) (ok.sol q) (fun g hg => inj g (ok.hom hg)) (ok.red red)
    refine ⟨N, z4, z5, z6, z7, z9, WN, SN, RN, hwm, sz, ?_⟩
    rw [List.range'_succ, List.map_cons, for_cons (ρ1 := [some (.o false (.lst (mD M))), o1, o2, some (.v (.int (c : Int))), some (.v (.int (c : Int))), ov x5, oo x6, ov x7, ov x8, ov x9, ov x10]) (by simp -implicitDefEqProofs only [e_bdo, e_bdn, e_bd, e_ob, e_obn, e_grt, e_grf, e_set0, e_setS, e_can0, e_can1, e_can2, e_can3, e_canS, e_own0, e_ownS, e_iol0, e_iolS, e_gt0, e_gtS, e_var, e_rdv, e_rdo, e_c, e_drv, e_drs, e_drov, e_droo, e_tvv, e_tvs, e_tvov, e_tvoo, e_tvl0, e_tvl1, e_drl0, e_drl1, e_m2, e_m2F, e_m1, e_mT, e_tbo, e_mFr, e_nil, e_cons, e_mB, e_mBF, e_tup, e_lst, e_call, e_callF, e_callIO, e_ioo, e_and, e_andt, e_andf, e_or, e_ort, e_orf, e_not, e_noto, e_bot, e_bof, e_if, e_tand, e_tor, e_tnot, e_isi, e_seq, e_seqn, e_seqr, e_seqb, e_seqc, e_seqo, e_snil, e_sno, e_sif, e_ift, e_iff, e_set, e_setF, e_ret, e_expr, e_gvar, e_par, e_par2, e_par3o, e_par3, e_gtup, e_gcons, e_gnil, e_for, e_sq, e_sql, e_sqt, e_r1, e_rgo, e_r2, e_rgo2, e_frn, e_frv, e_fro, e_fr1, e_fr2, e_wi1, e_wi2, e_re1, e_re2, e_lc, e_lcT, e_lctt, e_lctf, e_slL, e_slo, e_oNo, e_oS, e_oso, e_cut1, e_rev, e_rvo, e_ch, e_cht, e_chf, e_six, e_sxo, e_ixs, e_lens, e_lsts, e_lstl, e_lstt, e_pow, e_eqb, e_neb, e_ntb, e_isbb, e_isn, e_non, e_gt2, e_tint_non, e_tint_bl, e_tint_int, e_tint_str, e_tint_tup, e_tint_lst, e_tint_scr, e_tbool_non, e_tbool_bl, e_tbool_int, e_tbool_str, e_tbool_tup, e_tbool_lst, e_tbool_scr, e_tstr_non, e_tstr_bl, e_tstr_int, e_tstr_str, e_tstr_tup, e_tstr_lst, e_tstr_scr, e_ttuple_non, e_ttuple_bl, e_ttuple_int, e_ttuple_str, e_ttuple_tup, e_ttuple_lst, e_ttuple_scr, e_tlist_non, e_tlist_bl, e_tlist_int, e_tlist_str, e_tlist_tup, e_tlist_lst, e_tlist_scr, e_forn, e_fcn, e_fcr, e_fcc, e_fcb, e_revT, e_rvT, e_lr, e_tr, e_rg1, e_rg2, e_rgo1, e_rg2o, e_en, e_enl, e_ent, e_zp, e_zpl, e_zpt, e_isi2, e_catT, e_catL, e_aug, e_ago, e_agn, e_meth1, e_meo, e_apd, e_dc, e_dcT, e_dctt, e_dctf, e_koi, e_kos, e_dg, e_augix, e_aug2, e_sl, e_sl2l, e_sl2t, e_repT, e_repL, e_yes, e_add, e_sub, e_mul, e_fdiv, e_mod, e_cmp, e_neg, e_ixt, e_ixl, e_at0, e_at1, e_at2, e_at3, e_eqi, e_nei, e_abs, e_int, e_intb, e_lenl, e_lent, e_tupl, e_tupt, e_can4, e_gtn, e_fori, e_fio, e_setdc, e_sdco, e_get2, e_isdk, e_geto, e_gtos, e_gton, e_newd, e_disp1, e_parok, e_parov, e_parvo, e_paroo, e_indc, e_nindc, e_max2, e_min2, e_meth0, e_me0, items_nil, items_cons, keyD_i, e_ch3, e_c3t, e_c3f, e_rgd2, e_rgv, e_rgvo, e_gsub, e_sub2, e_index, e_isl, e_lc2, bne_self_eq_false, beq_self_eq_true, Nat.reduceBEq, Nat.reduceEqDiff, List.length_cons, List.length_nil, Bool.and_true, Bool.true_and, lo1, lo2, lo3, lo4, lo5, decide_true, decide_false, fino2_r, fino_r, outo_r, outo_n, List.set_cons_zero, List.set_cons_succ, fino_n, Bool.not_true, Bool.not_false, Int.zero_add]) st]
    exact fe
theorem red_dt {m w : Nat} {N : Mx} (h : Red m N w) {f : Nat → Rat} {k : Nat} (hk : k < m) : ∀ n, n ≤ w → dt (ent N k) f n = if k < n then f k else 0
  | 0, _ => by rw [if_neg (by omega)]; rfl
  | n + 1, hn => by
    show dt (ent N k) f n + ent N k n * f n = _
    rw [red_dt h hk n (by omega), h k hk n (by omega)]
    by_cases e : k = n
    · subst e; rw [if_neg (by omega), if_pos rfl, if_pos (by omega)]; grind
    · rw [if_neg e]
      by_cases e2 : k < n
      · rw [if_pos e2, if_pos (by omega)]; grind
      · rw [if_neg e2, if_neg (by omega)]; grind
theorem solved_eq {m w J : Nat} {M : Mx} {f : Nat → Rat} {X : List D} (hX : X = mD M ∨ X = M.map fun r => D.tup (r.map sh)) (hw1 : 1 ≤ w) (hm1 : 1 ≤ m) (W : Wf m w M) (S : SzM m J M) (q : Sol m w M f) (inj : Inj m w M) (hJ : 4 * grow J (w - 1) ≤ 8990) (hm : m ≤ 1000) (hw : w ≤ 1000) : den_solved [.lst X] = some (.tup ((List.range w).map fun k => sh (f k))) := by
  rw [den_solved, den_of]
  show fino (m_solved [some (.v (.lst X)), none, none, none, none, none, none, none, none, none, none]) = _
  have hm' : ∀ ρ, m_solved ρ = (sSeq (sSetF 0 (mLc (iSq (mVar 0)) (gVar 1) tYes' (mFr (mBF lstD (lCons (mVar 1) lNil))) [1])) (sSeq (sSet (gVar 2) (m2 subI (mB lenD (lCons (m2 ixD (mVar 0) (mC (.int 0))) lNil)) (mC (.int 1)))) (sSeq (sSet (gVar 3) (mC (.int 0))) (sSeq (sFor (iRange1 (mVar 2)) (gVar 4) colB) (sSeq (sIf (mT (mB anyD (lCons (mFr (mLc (iRange2 (mVar 3) (mB lenD (lCons (mVar 0) lNil))) (gVar 5) tYes' (m2 neD (m2 ixD (m2 ixD (m2 ixD (mVar 0) (mVar 5)) (mVar 2)) (mC (.int 0))) (mC (.int 0))) [5])) lNil))) (sRet (mC .non)) sNil) (sRet (mB tupD (lCons (mFr (mLc (iRange1 (mVar 2)) (gVar 5) tYes' (m2 ixD (m2 ixD (mVar 0) (mVar 5)) (mVar 2)) [5])) lNil)))))))) ρ := fun ρ => rfl
  rw [hm']
  have hl := W.1
  have c0 : lcL (gVar 1) tYes' (mFr (mBF lstD (lCons (mVar 1) lNil))) [1] X [some (.v (.lst X)), none, none, none, none, none, none, none, none, none, none] = some (mD M, [some (.v (.lst X)), none, none, none, none, none, none, none, none, none, none]) := by
    rcases hX with rfl | rfl
    · conv => lhs; arg 6; unfold mD
      exact lc_mapE (fun r : List Rat => D.lst (r.map sh)) _ fun r _ => by simp -implicitDefEqProofs only [e_bdo, e_bdn, e_bd, e_ob, e_obn, e_grt, e_grf, e_set0, e_setS, e_can0, e_can1, e_can2, e_can3, e_canS, e_own0, e_ownS, e_iol0, e_iolS, e_gt0, e_gtS, e_var, e_rdv, e_rdo, e_c, e_drv, e_drs, e_drov, e_droo, e_tvv, e_tvs, e_tvov, e_tvoo, e_tvl0, e_tvl1, e_drl0, e_drl1, e_m2, e_m2F, e_m1, e_mT, e_tbo, e_mFr, e_nil, e_cons, e_mB, e_mBF, e_tup, e_lst, e_call, e_callF, e_callIO, e_ioo, e_and, e_andt, e_andf, e_or, e_ort, e_orf, e_not, e_noto, e_bot, e_bof, e_if, e_tand, e_tor, e_tnot, e_isi, e_seq, e_seqn, e_seqr, e_seqb, e_seqc, e_seqo, e_snil, e_sno, e_sif, e_ift, e_iff, e_set, e_setF, e_ret, e_expr, e_gvar, e_par, e_par2, e_par3o, e_par3, e_gtup, e_gcons, e_gnil, e_for, e_sq, e_sql, e_sqt, e_r1, e_rgo, e_r2, e_rgo2, e_frn, e_frv, e_fro, e_fr1, e_fr2, e_wi1, e_wi2, e_re1, e_re2, e_lc, e_lcT, e_lctt, e_lctf, e_slL, e_slo, e_oNo, e_oS, e_oso, e_cut1, e_rev, e_rvo, e_ch, e_cht, e_chf, e_six, e_sxo, e_ixs, e_lens, e_lsts, e_lstl, e_lstt, e_pow, e_eqb, e_neb, e_ntb, e_isbb, e_isn, e_non, e_gt2, e_tint_non, e_tint_bl, e_tint_int, e_tint_str, e_tint_tup, e_tint_lst, e_tint_scr, e_tbool_non, e_tbool_bl, e_tbool_int, e_tbool_str, e_tbool_tup, e_tbool_lst, e_tbool_scr, e_tstr_non, e_tstr_bl, e_tstr_int, e_tstr_str, e_tstr_tup, e_tstr_lst, e_tstr_scr, e_ttuple_non, e_ttuple_bl, e_ttuple_int, e_ttuple_str, e_ttuple_tup, e_ttuple_lst, e_ttuple_scr, e_tlist_non, e_tlist_bl, e_tlist_int, e_tlist_str, e_tlist_tup, e_tlist_lst, e_tlist_scr, e_forn, e_fcn, e_fcr, e_fcc, e_fcb, e_revT, e_rvT, e_lr, e_tr, e_rg1, e_rg2, e_rgo1, e_rg2o, e_en, e_enl, e_ent, e_zp, e_zpl, e_zpt, e_isi2, e_catT, e_catL, e_aug, e_ago, e_agn, e_meth1, e_meo, e_apd, e_dc, e_dcT, e_dctt, e_dctf, e_koi, e_kos, e_dg, e_augix, e_aug2, e_sl, e_sl2l, e_sl2t, e_repT, e_repL, e_yes, e_add, e_sub, e_mul, e_fdiv, e_mod, e_cmp, e_neg, e_ixt, e_ixl, e_at0, e_at1, e_at2, e_at3, e_eqi, e_nei, e_abs, e_int, e_intb, e_lenl, e_lent, e_tupl, e_tupt, e_can4, e_gtn, e_fori, e_fio, e_setdc, e_sdco, e_get2, e_isdk, e_geto, e_gtos, e_gton, e_newd, e_disp1, e_parok, e_parov, e_parvo, e_paroo, e_indc, e_nindc, e_max2, e_min2, e_meth0, e_me0, items_nil, items_cons, keyD_i, e_ch3, e_c3t, e_c3f, e_rgd2, e_rgv, e_rgvo, e_gsub, e_sub2, e_index, e_isl, e_lc2, bne_self_eq_false, beq_self_eq_true, Nat.reduceBEq, Nat.reduceEqDiff, List.length_cons, List.length_nil, Bool.and_true, Bool.true_and, lo1, lo2, lo3, lo4, lo5, decide_true, decide_false, fino2_r, fino_r, outo_r, outo_n, List.set_cons_zero, List.set_cons_succ, fino_n, Bool.not_true, Bool.not_false, e_lstl]
    · exact lc_mapE (fun r : List Rat => D.tup (r.map sh)) _ fun r _ => by simp -implicitDefEqProofs only [e_bdo, e_bdn, e_bd, e_ob, e_obn, e_grt, e_grf, e_set0, e_setS, e_can0, e_can1, e_can2, e_can3, e_canS, e_own0, e_ownS, e_iol0, e_iolS, e_gt0, e_gtS, e_var, e_rdv, e_rdo, e_c, e_drv, e_drs, e_drov, e_droo, e_tvv, e_tvs, e_tvov, e_tvoo, e_tvl0, e_tvl1, e_drl0, e_drl1, e_m2, e_m2F, e_m1, e_mT, e_tbo, e_mFr, e_nil, e_cons, e_mB, e_mBF, e_tup, e_lst, e_call, e_callF, e_callIO, e_ioo, e_and, e_andt, e_andf, e_or, e_ort, e_orf, e_not, e_noto, e_bot, e_bof, e_if, e_tand, e_tor, e_tnot, e_isi, e_seq, e_seqn, e_seqr, e_seqb, e_seqc, e_seqo, e_snil, e_sno, e_sif, e_ift, e_iff, e_set, e_setF, e_ret, e_expr, e_gvar, e_par, e_par2, e_par3o, e_par3, e_gtup, e_gcons, e_gnil, e_for, e_sq, e_sql, e_sqt, e_r1, e_rgo, e_r2, e_rgo2, e_frn, e_frv, e_fro, e_fr1, e_fr2, e_wi1, e_wi2, e_re1, e_re2, e_lc, e_lcT, e_lctt, e_lctf, e_slL, e_slo, e_oNo, e_oS, e_oso, e_cut1, e_rev, e_rvo, e_ch, e_cht, e_chf, e_six, e_sxo, e_ixs, e_lens, e_lsts, e_lstl, e_lstt, e_pow, e_eqb, e_neb, e_ntb, e_isbb, e_isn, e_non, e_gt2, e_tint_non, e_tint_bl, e_tint_int, e_tint_str, e_tint_tup, e_tint_lst, e_tint_scr, e_tbool_non, e_tbool_bl, e_tbool_int, e_tbool_str, e_tbool_tup, e_tbool_lst, e_tbool_scr, e_tstr_non, e_tstr_bl, e_tstr_int, e_tstr_str, e_tstr_tup, e_tstr_lst, e_tstr_scr, e_ttuple_non, e_ttuple_bl, e_ttuple_int, e_ttuple_str, e_ttuple_tup, e_ttuple_lst, e_ttuple_scr, e_tlist_non, e_tlist_bl, e_tlist_int, e_tlist_str, e_tlist_tup, e_tlist_lst, e_tlist_scr, e_forn, e_fcn, e_fcr, e_fcc, e_fcb, e_revT, e_rvT, e_lr, e_tr, e_rg1, e_rg2, e_rgo1, e_rg2o, e_en, e_enl, e_ent, e_zp, e_zpl, e_zpt, e_isi2, e_catT, e_catL, e_aug, e_ago, e_agn, e_meth1, e_meo, e_apd, e_dc, e_dcT, e_dctt, e_dctf, e_koi, e_kos, e_dg, e_augix, e_aug2, e_sl, e_sl2l, e_sl2t, e_repT, e_repL, e_yes, e_add, e_sub, e_mul, e_fdiv, e_mod, e_cmp, e_neg, e_ixt, e_ixl, e_at0, e_at1, e_at2, e_at3, e_eqi, e_nei, e_abs, e_int, e_intb, e_lenl, e_lent, e_tupl, e_tupt, e_can4, e_gtn, e_fori, e_fio, e_setdc, e_sdco, e_get2, e_isdk, e_geto, e_gtos, e_gton, e_newd, e_disp1, e_parok, e_parov, e_parvo, e_paroo, e_indc, e_nindc, e_max2, e_min2, e_meth0, e_me0, items_nil, items_cons, keyD_i, e_ch3, e_c3t, e_c3f, e_rgd2, e_rgv, e_rgvo, e_gsub, e_sub2, e_index, e_isl, e_lc2, bne_self_eq_false, beq_self_eq_true, Nat.reduceBEq, Nat.reduceEqDiff, List.length_cons, List.length_nil, Bool.and_true, Bool.true_and, lo1, lo2, lo3, lo4, lo5, decide_true, decide_false, fino2_r, fino_r, outo_r, outo_n, List.set_cons_zero, List.set_cons_succ, fino_n, Bool.not_true, Bool.not_false, e_lstt]
  have xl : X.length = m := by rcases hX with rfl | rfl <;> simp [mD, hl]
  have a0 := mD_at (M := M) (k := 0) (by omega)
  have a0 : atI (mD M) 0 = some (.lst ((rw' M 0).map sh)) := a0
  have r0 := W.2 0 (by omega)
  obtain ⟨N, y4, y5, y6, y7, y9, WN, SN, RN, hwm, szN, fe⟩ := cols hJ hm hw (o1 := none) (o2 := some (.v (.int (w : Int)))) (x8 := none) (x10 := none) w 0 M none none none none none (by omega) W S q inj (fun k hk j hj => by omega)
  rw [← rngS'] at fe
  have fe : forL (gVar 4) colB (rngL 0 w) [some (.o false (.lst (mD M))), none, some (.v (.int (w : Int))), some (.v (.int 0)), none, none, none, none, none, none, none] = some (.nx [some (.o false (.lst (mD N))), none, some (.v (.int (w : Int))), some (.v (.int (w : Int))), ov y4, ov y5, oo y6, ov y7, none, ov y9, none]) := fe
  have nl := WN.1
  have ew : ∀ k, k < m → ent N k w = if k < w then f k else 0 := fun k hk => by rw [← SN k hk, red_dt RN hk w (Nat.le_refl _)]
  have c1 : lcL (gVar 5) tYes' (m2 neD (m2 ixD (m2 ixD (m2 ixD (mVar 0) (mVar 5)) (mVar 2)) (mC (.int 0))) (mC (.int 0))) [5] (rngL (w : Int) (m - w)) [some (.o false (.lst (mD N))), none, some (.v (.int (w : Int))), some (.v (.int (w : Int))), ov y4, ov y5, oo y6, ov y7, none, ov y9, none] = some (((List.range (m - w)).map fun _ => false).map D.bl, [some (.o false (.lst (mD N))), none, some (.v (.int (w : Int))), some (.v (.int (w : Int))), ov y4, ov y5, oo y6, ov y7, none, ov y9, none]) := by
    rw [List.map_map]
    exact lc_mapE (fun (i : Nat) => D.int ((w : Int) + (i : Int))) _ fun i hi => by
      have hi := List.mem_range.mp hi
      have a := mD_at (M := N) (k := w + i) (by omega)
      rw [show ((w + i : Nat) : Int) = (w : Int) + (i : Int) by omega] at a
      have r := row_at (r := rw' N (w + i)) (c := w) (by rw [WN.2 _ (by omega)]; omega)
      have z : (rw' N (w + i)).getD w 0 = 0 := by
        have := ew (w + i) (by omega)
        rw [if_neg (by omega)] at this
        exact this
      simp -implicitDefEqProofs only [e_bdo, e_bdn, e_bd, e_ob, e_obn, e_grt, e_grf, e_set0, e_setS, e_can0, e_can1, e_can2, e_can3, e_canS, e_own0, e_ownS, e_iol0, e_iolS, e_gt0, e_gtS, e_var, e_rdv, e_rdo, e_c, e_drv, e_drs, e_drov, e_droo, e_tvv, e_tvs, e_tvov, e_tvoo, e_tvl0, e_tvl1, e_drl0, e_drl1, e_m2, e_m2F, e_m1, e_mT, e_tbo, e_mFr, e_nil, e_cons, e_mB, e_mBF, e_tup, e_lst, e_call, e_callF, e_callIO, e_ioo, e_and, e_andt, e_andf, e_or, e_ort, e_orf, e_not, e_noto, e_bot, e_bof, e_if, e_tand, e_tor, e_tnot, e_isi, e_seq, e_seqn, e_seqr, e_seqb, e_seqc, e_seqo, e_snil, e_sno, e_sif, e_ift, e_iff, e_set, e_setF, e_ret, e_expr, e_gvar, e_par, e_par2, e_par3o, e_par3, e_gtup, e_gcons, e_gnil, e_for, e_sq, e_sql, e_sqt, e_r1, e_rgo, e_r2, e_rgo2, e_frn, e_frv, e_fro, e_fr1, e_fr2, e_wi1, e_wi2, e_re1, e_re2, e_lc, e_lcT, e_lctt, e_lctf, e_slL, e_slo, e_oNo, e_oS, e_oso, e_cut1, e_rev, e_rvo, e_ch, e_cht, e_chf, e_six, e_sxo, e_ixs, e_lens, e_lsts, e_lstl, e_lstt, e_pow, e_eqb, e_neb, e_ntb, e_isbb, e_isn, e_non, e_gt2, e_tint_non, e_tint_bl, e_tint_int, e_tint_str, e_tint_tup, e_tint_lst, e_tint_scr, e_tbool_non, e_tbool_bl, e_tbool_int, e_tbool_str, e_tbool_tup, e_tbool_lst, e_tbool_scr, e_tstr_non, e_tstr_bl, e_tstr_int, e_tstr_str, e_tstr_tup, e_tstr_lst, e_tstr_scr, e_ttuple_non, e_ttuple_bl, e_ttuple_int, e_ttuple_str, e_ttuple_tup, e_ttuple_lst, e_ttuple_scr, e_tlist_non, e_tlist_bl, e_tlist_int, e_tlist_str, e_tlist_tup, e_tlist_lst, e_tlist_scr, e_forn, e_fcn, e_fcr, e_fcc, e_fcb, e_revT, e_rvT, e_lr, e_tr, e_rg1, e_rg2, e_rgo1, e_rg2o, e_en, e_enl, e_ent, e_zp, e_zpl, e_zpt, e_isi2, e_catT, e_catL, e_aug, e_ago, e_agn, e_meth1, e_meo, e_apd, e_dc, e_dcT, e_dctt, e_dctf, e_koi, e_kos, e_dg, e_augix, e_aug2, e_sl, e_sl2l, e_sl2t, e_repT, e_repL, e_yes, e_add, e_sub, e_mul, e_fdiv, e_mod, e_cmp, e_neg, e_ixt, e_ixl, e_at0, e_at1, e_at2, e_at3, e_eqi, e_nei, e_abs, e_int, e_intb, e_lenl, e_lent, e_tupl, e_tupt, e_can4, e_gtn, e_fori, e_fio, e_setdc, e_sdco, e_get2, e_isdk, e_geto, e_gtos, e_gton, e_newd, e_disp1, e_parok, e_parov, e_parvo, e_paroo, e_indc, e_nindc, e_max2, e_min2, e_meth0, e_me0, items_nil, items_cons, keyD_i, e_ch3, e_c3t, e_c3f, e_rgd2, e_rgv, e_rgvo, e_gsub, e_sub2, e_index, e_isl, e_lc2, bne_self_eq_false, beq_self_eq_true, Nat.reduceBEq, Nat.reduceEqDiff, List.length_cons, List.length_nil, Bool.and_true, Bool.true_and, lo1, lo2, lo3, lo4, lo5, decide_true, decide_false, fino2_r, fino_r, outo_r, outo_n, List.set_cons_zero, List.set_cons_succ, fino_n, Bool.not_true, Bool.not_false, a, r, sh_ix0, e_nei, num0, decide_eq_true z]
      rfl
  have c2 : lcL (gVar 5) tYes' (m2 ixD (m2 ixD (mVar 0) (mVar 5)) (mVar 2)) [5] (rngL 0 w) [some (.o false (.lst (mD N))), none, some (.v (.int (w : Int))), some (.v (.int (w : Int))), ov y4, ov y5, oo y6, ov y7, none, ov y9, none] = some ((List.range w).map (fun k => sh (f k)), [some (.o false (.lst (mD N))), none, some (.v (.int (w : Int))), some (.v (.int (w : Int))), ov y4, ov y5, oo y6, ov y7, none, ov y9, none]) :=
    lc_mapE (fun (i : Nat) => D.int (0 + (i : Int))) _ fun i hi => by
      have hi := List.mem_range.mp hi
      have a := mD_at (M := N) (k := i) (by omega)
      have r := row_at (r := rw' N i) (c := w) (by rw [WN.2 _ (by omega)]; omega)
      have z : (rw' N i).getD w 0 = f i := by
        have := ew i (by omega)
        rw [if_pos hi] at this
        exact this
      rw [z] at r
      simp -implicitDefEqProofs only [e_bdo, e_bdn, e_bd, e_ob, e_obn, e_grt, e_grf, e_set0, e_setS, e_can0, e_can1, e_can2, e_can3, e_canS, e_own0, e_ownS, e_iol0, e_iolS, e_gt0, e_gtS, e_var, e_rdv, e_rdo, e_c, e_drv, e_drs, e_drov, e_droo, e_tvv, e_tvs, e_tvov, e_tvoo, e_tvl0, e_tvl1, e_drl0, e_drl1, e_m2, e_m2F, e_m1, e_mT, e_tbo, e_mFr, e_nil, e_cons, e_mB, e_mBF, e_tup, e_lst, e_call, e_callF, e_callIO, e_ioo, e_and, e_andt, e_andf, e_or, e_ort, e_orf, e_not, e_noto, e_bot, e_bof, e_if, e_tand, e_tor, e_tnot, e_isi, e_seq, e_seqn, e_seqr, e_seqb, e_seqc, e_seqo, e_snil, e_sno, e_sif, e_ift, e_iff, e_set, e_setF, e_ret, e_expr, e_gvar, e_par, e_par2, e_par3o, e_par3, e_gtup, e_gcons, e_gnil, e_for, e_sq, e_sql, e_sqt, e_r1, e_rgo, e_r2, e_rgo2, e_frn, e_frv, e_fro, e_fr1, e_fr2, e_wi1, e_wi2, e_re1, e_re2, e_lc, e_lcT, e_lctt, e_lctf, e_slL, e_slo, e_oNo, e_oS, e_oso, e_cut1, e_rev, e_rvo, e_ch, e_cht, e_chf, e_six, e_sxo, e_ixs, e_lens, e_lsts, e_lstl, e_lstt, e_pow, e_eqb, e_neb, e_ntb, e_isbb, e_isn, e_non, e_gt2, e_tint_non, e_tint_bl, e_tint_int, e_tint_str, e_tint_tup, e_tint_lst, e_tint_scr, e_tbool_non, e_tbool_bl, e_tbool_int, e_tbool_str, e_tbool_tup, e_tbool_lst, e_tbool_scr, e_tstr_non, e_tstr_bl, e_tstr_int, e_tstr_str, e_tstr_tup, e_tstr_lst, e_tstr_scr, e_ttuple_non, e_ttuple_bl, e_ttuple_int, e_ttuple_str, e_ttuple_tup, e_ttuple_lst, e_ttuple_scr, e_tlist_non, e_tlist_bl, e_tlist_int, e_tlist_str, e_tlist_tup, e_tlist_lst, e_tlist_scr, e_forn, e_fcn, e_fcr, e_fcc, e_fcb, e_revT, e_rvT, e_lr, e_tr, e_rg1, e_rg2, e_rgo1, e_rg2o, e_en, e_enl, e_ent, e_zp, e_zpl, e_zpt, e_isi2, e_catT, e_catL, e_aug, e_ago, e_agn, e_meth1, e_meo, e_apd, e_dc, e_dcT, e_dctt, e_dctf, e_koi, e_kos, e_dg, e_augix, e_aug2, e_sl, e_sl2l, e_sl2t, e_repT, e_repL, e_yes, e_add, e_sub, e_mul, e_fdiv, e_mod, e_cmp, e_neg, e_ixt, e_ixl, e_at0, e_at1, e_at2, e_at3, e_eqi, e_nei, e_abs, e_int, e_intb, e_lenl, e_lent, e_tupl, e_tupt, e_can4, e_gtn, e_fori, e_fio, e_setdc, e_sdco, e_get2, e_isdk, e_geto, e_gtos, e_gton, e_newd, e_disp1, e_parok, e_parov, e_parvo, e_paroo, e_indc, e_nindc, e_max2, e_min2, e_meth0, e_me0, items_nil, items_cons, keyD_i, e_ch3, e_c3t, e_c3f, e_rgd2, e_rgv, e_rgvo, e_gsub, e_sub2, e_index, e_isl, e_lc2, bne_self_eq_false, beq_self_eq_true, Nat.reduceBEq, Nat.reduceEqDiff, List.length_cons, List.length_nil, Bool.and_true, Bool.true_and, lo1, lo2, lo3, lo4, lo5, decide_true, decide_false, fino2_r, fino_r, outo_r, outo_n, List.set_cons_zero, List.set_cons_succ, fino_n, Bool.not_true, Bool.not_false, Int.zero_add, a, r]
  have an : ((List.range (m - w)).map fun _ => false).any id = false := by
    rw [List.any_eq_false]
    intro x hx
    obtain ⟨_, _, rfl⟩ := List.mem_map.mp hx
    simp
  simp -implicitDefEqProofs only [e_bdo, e_bdn, e_bd, e_ob, e_obn, e_grt, e_grf, e_set0, e_setS, e_can0, e_can1, e_can2, e_can3, e_canS, e_own0, e_ownS, e_iol0, e_iolS, e_gt0, e_gtS, e_var, e_rdv, e_rdo, e_c, e_drv, e_drs, e_drov, e_droo, e_tvv, e_tvs, e_tvov, e_tvoo, e_tvl0, e_tvl1, e_drl0, e_drl1, e_m2, e_m2F, e_m1, e_mT, e_tbo, e_mFr, e_nil, e_cons, e_mB, e_mBF, e_tup, e_lst, e_call, e_callF, e_callIO, e_ioo, e_and, e_andt, e_andf, e_or, e_ort, e_orf, e_not, e_noto, e_bot, e_bof, e_if, e_tand, e_tor, e_tnot, e_isi, e_seq, e_seqn, e_seqr, e_seqb, e_seqc, e_seqo, e_snil, e_sno, e_sif, e_ift, e_iff, e_set, e_setF, e_ret, e_expr, e_gvar, e_par, e_par2, e_par3o, e_par3, e_gtup, e_gcons, e_gnil, e_for, e_sq, e_sql, e_sqt, e_r1, e_rgo, e_r2, e_rgo2, e_frn, e_frv, e_fro, e_fr1, e_fr2, e_wi1, e_wi2, e_re1, e_re2, e_lc, e_lcT, e_lctt, e_lctf, e_slL, e_slo, e_oNo, e_oS, e_oso, e_cut1, e_rev, e_rvo, e_ch, e_cht, e_chf, e_six, e_sxo, e_ixs, e_lens, e_lsts, e_lstl, e_lstt, e_pow, e_eqb, e_neb, e_ntb, e_isbb, e_isn, e_non, e_gt2, e_tint_non, e_tint_bl, e_tint_int, e_tint_str, e_tint_tup, e_tint_lst, e_tint_scr, e_tbool_non, e_tbool_bl, e_tbool_int, e_tbool_str, e_tbool_tup, e_tbool_lst, e_tbool_scr, e_tstr_non, e_tstr_bl, e_tstr_int, e_tstr_str, e_tstr_tup, e_tstr_lst, e_tstr_scr, e_ttuple_non, e_ttuple_bl, e_ttuple_int, e_ttuple_str, e_ttuple_tup, e_ttuple_lst, e_ttuple_scr, e_tlist_non, e_tlist_bl, e_tlist_int, e_tlist_str, e_tlist_tup, e_tlist_lst, e_tlist_scr, e_forn, e_fcn, e_fcr, e_fcc, e_fcb, e_revT, e_rvT, e_lr, e_tr, e_rg1, e_rg2, e_rgo1, e_rg2o, e_en, e_enl, e_ent, e_zp, e_zpl, e_zpt, e_isi2, e_catT, e_catL, e_aug, e_ago, e_agn, e_meth1, e_meo, e_apd, e_dc, e_dcT, e_dctt, e_dctf, e_koi, e_kos, e_dg, e_augix, e_aug2, e_sl, e_sl2l, e_sl2t, e_repT, e_repL, e_yes, e_add, e_sub, e_mul, e_fdiv, e_mod, e_cmp, e_neg, e_ixt, e_ixl, e_at0, e_at1, e_at2, e_at3, e_eqi, e_nei, e_abs, e_int, e_intb, e_lenl, e_lent, e_tupl, e_tupt, e_can4, e_gtn, e_fori, e_fio, e_setdc, e_sdco, e_get2, e_isdk, e_geto, e_gtos, e_gton, e_newd, e_disp1, e_parok, e_parov, e_parvo, e_paroo, e_indc, e_nindc, e_max2, e_min2, e_meth0, e_me0, items_nil, items_cons, keyD_i, e_ch3, e_c3t, e_c3f, e_rgd2, e_rgv, e_rgvo, e_gsub, e_sub2, e_index, e_isl, e_lc2, bne_self_eq_false, beq_self_eq_true, Nat.reduceBEq, Nat.reduceEqDiff, List.length_cons, List.length_nil, Bool.and_true, Bool.true_and, lo1, lo2, lo3, lo4, lo5, decide_true, decide_false, fino2_r, fino_r, outo_r, outo_n, List.set_cons_zero, List.set_cons_succ, fino_n, Bool.not_true, Bool.not_false, xl, show lineOk m = true from decide_eq_true (by omega), c0, a0, List.length_map, r0, show (((w + 1 : Nat) : Int) - 1) = (w : Int) by omega, e_for, show rgOk (w : Int) = true from decide_eq_true (by omega), Int.toNat_natCast, fe, mD_len, nl, show rgOk (m : Int) = true from decide_eq_true (by omega), show ((m : Int) - (w : Int)).toNat = m - w by omega, rng_len, e_fro, show lineOk (m - w) = true from decide_eq_true (by omega), c1, any_l, an, show lineOk w = true from decide_eq_true (by omega), c2]
def fr' (a D : Int) : Rat := Rat.divInt a D
theorem fr_sz {a D : Int} {J : Nat} (h0 : 0 ≤ a) (h1 : a ≤ D) (hD : 0 < D) (hJ : D < 2 ^ J) : Sz J (fr' a D) := by
  have e : ((2 : Int) ^ J) = ((2 ^ J : Nat) : Int) := by rw [Int.natCast_pow]; rfl
  rw [e] at hJ
  exact Sz.div (by omega) (by omega) (by omega)
theorem fr_add {a b D : Int} (h : 0 < D) : fr' a D + fr' b D = fr' (a + b) D := by
  unfold fr'
  rw [Rat.divInt_add_divInt _ _ (by omega) (by omega), ← Int.add_mul, Rat.divInt_mul_right (by omega)]
theorem fr_mul {a b D d : Int} : fr' a D * fr' b d = fr' (a * b) (D * d) := by
  unfold fr'
  rw [Rat.divInt_mul_divInt]
theorem fr_up {a D d : Int} (h : d ≠ 0) : fr' a D = fr' (a * d) (D * d) := by
  unfold fr'
  rw [Rat.divInt_mul_right h]
theorem fr_one {D : Int} (h : 0 < D) : fr' D D = 1 := Rat.divInt_self' (by omega)
theorem fr_zero {D : Int} : fr' 0 D = 0 := Rat.zero_divInt D
theorem fr_sub {a b D : Int} (h : 0 < D) : fr' a D - fr' b D = fr' (a - b) D := by
  unfold fr'
  rw [Rat.divInt_sub_divInt _ _ (by omega) (by omega), ← Int.sub_mul, Rat.divInt_mul_right (by omega)]
theorem int_one (a : Int) : (a : Rat) = fr' a 1 := (Rat.num_divInt_den _).symm
theorem int_fr {a b D : Int} : (a : Rat) * fr' b D = fr' (a * b) D := by rw [int_one, fr_mul, Int.one_mul]
theorem sh_int (a : Int) : D.tup [.int a, .int 1] = sh (a : Rat) := rfl
theorem sz_int {a : Int} {k : Nat} (h : a.natAbs < 2 ^ k) (hk : 0 < k) : Sz k (a : Rat) := ⟨h, by show 1 < 2 ^ k; exact Nat.one_lt_two_pow (by omega)⟩
theorem tot_fr {α : Type} {W : Int} (h : 0 < W) (g : α → Int) : ∀ (l : List α) (a : Int), tot (fr' a W) (l.map fun x => fr' (g x) W) = fr' (a + (l.map g).sum) W
  | [], a => by rw [List.map_nil, List.map_nil, List.sum_nil, Int.add_zero]; rfl
  | x :: l, a => by
    rw [List.map_cons, tot, fr_add h, tot_fr h g l, List.map_cons, List.sum_cons, Int.add_assoc]
theorem tot_fr0 {α : Type} {W : Int} (h : 0 < W) (g : α → Int) (l : List α) : tot 0 (l.map fun x => fr' (g x) W) = fr' (l.map g).sum W := by
  have := tot_fr h g l 0
  rwa [fr_zero, Int.zero_add] at this
theorem fr_lt {a b c d : Int} (hb : 0 < b) (hd : 0 < d) : decide (fr' a b < fr' c d) = decide (a * d < c * b) := by
  refine decide_eq_decide.mpr ?_
  have e1 : fr' a b = fr' (a * d) (b * d) := fr_up (by omega)
  have e2 : fr' c d = fr' (c * b) (b * d) := by rw [Int.mul_comm b d]; exact fr_up (by omega)
  have hbd : 0 < b * d := Int.mul_pos hb hd
  rw [e1, e2, Rat.lt_iff_sub_pos, fr_sub hbd]
  have key : ∀ z : Int, 0 < fr' z (b * d) ↔ 0 < z := fun z => by
    constructor
    · intro h
      refine Classical.byContradiction fun q => ?_
      have h2 : 0 ≤ fr' (-z) (b * d) := Rat.divInt_nonneg (by omega) (by omega)
      have h3 : fr' (-z) (b * d) = - fr' z (b * d) := by
        have := fr_sub (a := 0) (b := z) hbd
        rw [fr_zero, Int.zero_sub] at this
        rw [← this]; grind
      grind
    · intro h
      have h2 : 0 ≤ fr' z (b * d) := Rat.divInt_nonneg (by omega) (by omega)
      have h3 : fr' z (b * d) ≠ 0 := fun e => by
        rw [← fr_zero (D := b * d)] at e
        have := (Rat.divInt_eq_divInt_iff (by omega) (by omega)).mp e
        rw [Int.zero_mul] at this
        rcases Int.mul_eq_zero.mp this with r | r <;> omega
      grind
  rw [key]
  omega
theorem repT_one {d : D} {k : Int} {n : Nat} (e : k = (n : Int)) (hn : n ≤ 1000) : repT (.tup [d]) (.int k) = some (.tup (List.replicate n d)) := by
  subst e
  rw [e_repT, show decide (-1000 ≤ (n : Int) ∧ (n : Int) ≤ 1000 ∧ [d].length ≤ 1000) = true from decide_eq_true (by simp; omega)]
  rw [Int.toNat_natCast, flat_one]
  rfl
theorem repL_one {d : D} {k : Int} {n : Nat} (e : k = (n : Int)) (hn : n ≤ 1000) : repL (.lst [d]) (.int k) = some (.lst (List.replicate n d)) := by
  subst e
  rw [e_repL, show decide (-(2 ^ 63) ≤ (n : Int) ∧ (n : Int) < 2 ^ 63) = true from decide_eq_true (by omega), show lineOk ([d].length * (n : Int).toNat) = true from decide_eq_true (by simp; omega)]
  rw [Int.toNat_natCast, flat_one]
  rfl
theorem cut_from {xs : List D} {k : Nat} (h : k ≤ xs.length) : cutD xs (some (k : Int)) none = xs.drop k := by
  unfold cutD
  rw [HT.sIx_nat, Nat.min_eq_left h]
  show (xs.drop k).take (xs.length - k) = _
  exact List.take_of_length_le (by simp)
theorem cut_to {xs : List D} {k : Nat} (h : k ≤ xs.length) : cutD xs none (some (k : Int)) = xs.take k := by
  unfold cutD
  rw [HT.sIx_nat, Nat.min_eq_left h, HT.sIx_none, List.drop_zero, Nat.sub_zero]
theorem cut_last (l : List D) : cutD l none (some (-1)) = l.dropLast := by
  unfold cutD
  rw [HT.sIx_none, List.drop_zero, List.dropLast_eq_take]
  congr 1
  show (if (-1 : Int) < 0 then ((-1 : Int) + (l.length : Int)).toNat else min (-1 : Int).toNat l.length) - 0 = _
  rw [if_pos (by decide)]
  omega
theorem cut_mid {xs : List D} {k n : Nat} (h : k + n ≤ xs.length) : cutD xs (some (k : Int)) (some ((k : Int) + (n : Int))) = (xs.drop k).take n := by
  have e : ((k : Int) + (n : Int)) = ((k + n : Nat) : Int) := by omega
  unfold cutD
  rw [e, HT.sIx_nat, HT.sIx_nat, Nat.min_eq_left h, Nat.min_eq_left (show k ≤ xs.length by omega), Nat.add_sub_cancel_left]
def hasP (l p : List Int) : Bool := (List.range (l.length + 1 - p.length)).any fun i => decide ((l.drop i).take p.length = p)
theorem has_part_eq {l p : List Int} (hl : l.length ≤ 1000) (hp : p.length ≤ 1000) : den_has_part [.tup (l.map D.int), .tup (p.map D.int)] = some (.bl (hasP l p)) := by
  rw [den_has_part, den_of]
  show fino (m_has_part [some (.v (.tup (l.map D.int))), some (.v (.tup (p.map D.int))), none]) = _
  have e1 : lcL (gVar 2) tYes' (m2 eqD (mSl (mVar 0) (oSome (mVar 2)) (oSome (m2 addI (mVar 2) (mB lenD (lCons (mVar 1) lNil))))) (mVar 1)) [2] (rngL 0 (l.length + 1 - p.length)) [some (.v (.tup (l.map D.int))), some (.v (.tup (p.map D.int))), none] = some (((List.range (l.length + 1 - p.length)).map fun i => decide ((l.drop i).take p.length = p)).map D.bl, [some (.v (.tup (l.map D.int))), some (.v (.tup (p.map D.int))), none]) := by
    rw [List.map_map]
    exact lc_mapE (fun (i : Nat) => D.int (0 + (i : Int))) _ fun i hi => by
      have hi := List.mem_range.mp hi
      have q := cut_mid (xs := l.map D.int) (k := i) (n := p.length) (by rw [List.length_map]; omega)
      have q2 : ((l.map D.int).drop i).take p.length = ((l.drop i).take p.length).map D.int := by rw [List.map_take, List.map_drop]
      rw [q2] at q
      simp -implicitDefEqProofs only [e_bdo, e_bdn, e_bd, e_ob, e_obn, e_grt, e_grf, e_set0, e_setS, e_can0, e_can1, e_can2, e_can3, e_canS, e_own0, e_ownS, e_iol0, e_iolS, e_gt0, e_gtS, e_var, e_rdv, e_rdo, e_c, e_drv, e_drs, e_drov, e_droo, e_tvv, e_tvs, e_tvov, e_tvoo, e_tvl0, e_tvl1, e_drl0, e_drl1, e_m2, e_m2F, e_m1, e_mT, e_tbo, e_mFr, e_nil, e_cons, e_mB, e_mBF, e_tup, e_lst, e_call, e_callF, e_callIO, e_ioo, e_and, e_andt, e_andf, e_or, e_ort, e_orf, e_not, e_noto, e_bot, e_bof, e_if, e_tand, e_tor, e_tnot, e_isi, e_seq, e_seqn, e_seqr, e_seqb, e_seqc, e_seqo, e_snil, e_sno, e_sif, e_ift, e_iff, e_set, e_setF, e_ret, e_expr, e_gvar, e_par, e_par2, e_par3o, e_par3, e_gtup, e_gcons, e_gnil, e_for, e_sq, e_sql, e_sqt, e_r1, e_rgo, e_r2, e_rgo2, e_frn, e_frv, e_fro, e_fr1, e_fr2, e_wi1, e_wi2, e_re1, e_re2, e_lc, e_lcT, e_lctt, e_lctf, e_slL, e_slo, e_oNo, e_oS, e_oso, e_cut1, e_rev, e_rvo, e_ch, e_cht, e_chf, e_six, e_sxo, e_ixs, e_lens, e_lsts, e_lstl, e_lstt, e_pow, e_eqb, e_neb, e_ntb, e_isbb, e_isn, e_non, e_gt2, e_tint_non, e_tint_bl, e_tint_int, e_tint_str, e_tint_tup, e_tint_lst, e_tint_scr, e_tbool_non, e_tbool_bl, e_tbool_int, e_tbool_str, e_tbool_tup, e_tbool_lst, e_tbool_scr, e_tstr_non, e_tstr_bl, e_tstr_int, e_tstr_str, e_tstr_tup, e_tstr_lst, e_tstr_scr, e_ttuple_non, e_ttuple_bl, e_ttuple_int, e_ttuple_str, e_ttuple_tup, e_ttuple_lst, e_ttuple_scr, e_tlist_non, e_tlist_bl, e_tlist_int, e_tlist_str, e_tlist_tup, e_tlist_lst, e_tlist_scr, e_forn, e_fcn, e_fcr, e_fcc, e_fcb, e_revT, e_rvT, e_lr, e_tr, e_rg1, e_rg2, e_rgo1, e_rg2o, e_en, e_enl, e_ent, e_zp, e_zpl, e_zpt, e_isi2, e_catT, e_catL, e_aug, e_ago, e_agn, e_meth1, e_meo, e_apd, e_dc, e_dcT, e_dctt, e_dctf, e_koi, e_kos, e_dg, e_augix, e_aug2, e_sl, e_sl2l, e_sl2t, e_repT, e_repL, e_yes, e_add, e_sub, e_mul, e_fdiv, e_mod, e_cmp, e_neg, e_ixt, e_ixl, e_at0, e_at1, e_at2, e_at3, e_eqi, e_nei, e_abs, e_int, e_intb, e_lenl, e_lent, e_tupl, e_tupt, e_can4, e_gtn, e_fori, e_fio, e_setdc, e_sdco, e_get2, e_isdk, e_geto, e_gtos, e_gton, e_newd, e_disp1, e_parok, e_parov, e_parvo, e_paroo, e_indc, e_nindc, e_max2, e_min2, e_meth0, e_me0, items_nil, items_cons, keyD_i, e_ch3, e_c3t, e_c3f, e_rgd2, e_rgv, e_rgvo, e_gsub, e_sub2, e_index, e_isl, e_lc2, bne_self_eq_false, beq_self_eq_true, Nat.reduceBEq, Nat.reduceEqDiff, List.length_cons, List.length_nil, Bool.and_true, Bool.true_and, lo1, lo2, lo3, lo4, lo5, decide_true, decide_false, fino2_r, fino_r, outo_r, outo_n, List.set_cons_zero, List.set_cons_succ, fino_n, Bool.not_true, Bool.not_false, Int.zero_add, List.length_map, q, eq_tup_ints]
      rfl
  unfold m_has_part
  simp -implicitDefEqProofs only [e_bdo, e_bdn, e_bd, e_ob, e_obn, e_grt, e_grf, e_set0, e_setS, e_can0, e_can1, e_can2, e_can3, e_canS, e_own0, e_ownS, e_iol0, e_iolS, e_gt0, e_gtS, e_var, e_rdv, e_rdo, e_c, e_drv, e_drs, e_drov, e_droo, e_tvv, e_tvs, e_tvov, e_tvoo, e_tvl0, e_tvl1, e_drl0, e_drl1, e_m2, e_m2F, e_m1, e_mT, e_tbo, e_mFr, e_nil, e_cons, e_mB, e_mBF, e_tup, e_lst, e_call, e_callF, e_callIO, e_ioo, e_and, e_andt, e_andf, e_or, e_ort, e_orf, e_not, e_noto, e_bot, e_bof, e_if, e_tand, e_tor, e_tnot, e_isi, e_seq, e_seqn, e_seqr, e_seqb, e_seqc, e_seqo, e_snil, e_sno, e_sif, e_ift, e_iff, e_set, e_setF, e_ret, e_expr, e_gvar, e_par, e_par2, e_par3o, e_par3, e_gtup, e_gcons, e_gnil, e_for, e_sq, e_sql, e_sqt, e_r1, e_rgo, e_r2, e_rgo2, e_frn, e_frv, e_fro, e_fr1, e_fr2, e_wi1, e_wi2, e_re1, e_re2, e_lc, e_lcT, e_lctt, e_lctf, e_slL, e_slo, e_oNo, e_oS, e_oso, e_cut1, e_rev, e_rvo, e_ch, e_cht, e_chf, e_six, e_sxo, e_ixs, e_lens, e_lsts, e_lstl, e_lstt, e_pow, e_eqb, e_neb, e_ntb, e_isbb, e_isn, e_non, e_gt2, e_tint_non, e_tint_bl, e_tint_int, e_tint_str, e_tint_tup, e_tint_lst, e_tint_scr, e_tbool_non, e_tbool_bl, e_tbool_int, e_tbool_str, e_tbool_tup, e_tbool_lst, e_tbool_scr, e_tstr_non, e_tstr_bl, e_tstr_int, e_tstr_str, e_tstr_tup, e_tstr_lst, e_tstr_scr, e_ttuple_non, e_ttuple_bl, e_ttuple_int, e_ttuple_str, e_ttuple_tup, e_ttuple_lst, e_ttuple_scr, e_tlist_non, e_tlist_bl, e_tlist_int, e_tlist_str, e_tlist_tup, e_tlist_lst, e_tlist_scr, e_forn, e_fcn, e_fcr, e_fcc, e_fcb, e_revT, e_rvT, e_lr, e_tr, e_rg1, e_rg2, e_rgo1, e_rg2o, e_en, e_enl, e_ent, e_zp, e_zpl, e_zpt, e_isi2, e_catT, e_catL, e_aug, e_ago, e_agn, e_meth1, e_meo, e_apd, e_dc, e_dcT, e_dctt, e_dctf, e_koi, e_kos, e_dg, e_augix, e_aug2, e_sl, e_sl2l, e_sl2t, e_repT, e_repL, e_yes, e_add, e_sub, e_mul, e_fdiv, e_mod, e_cmp, e_neg, e_ixt, e_ixl, e_at0, e_at1, e_at2, e_at3, e_eqi, e_nei, e_abs, e_int, e_intb, e_lenl, e_lent, e_tupl, e_tupt, e_can4, e_gtn, e_fori, e_fio, e_setdc, e_sdco, e_get2, e_isdk, e_geto, e_gtos, e_gton, e_newd, e_disp1, e_parok, e_parov, e_parvo, e_paroo, e_indc, e_nindc, e_max2, e_min2, e_meth0, e_me0, items_nil, items_cons, keyD_i, e_ch3, e_c3t, e_c3f, e_rgd2, e_rgv, e_rgvo, e_gsub, e_sub2, e_index, e_isl, e_lc2, bne_self_eq_false, beq_self_eq_true, Nat.reduceBEq, Nat.reduceEqDiff, List.length_cons, List.length_nil, Bool.and_true, Bool.true_and, lo1, lo2, lo3, lo4, lo5, decide_true, decide_false, fino2_r, fino_r, outo_r, outo_n, List.set_cons_zero, List.set_cons_succ, fino_n, Bool.not_true, Bool.not_false, List.length_map, show rgOk ((l.length : Int) - (p.length : Int) + 1) = true from decide_eq_true (by omega), show ((l.length : Int) - (p.length : Int) + 1).toNat = l.length + 1 - p.length by omega, rng_len, show lineOk (l.length + 1 - p.length) = true from decide_eq_true (by omega), e1, any_l]
  unfold hasP
  rw [List.any_map]
  rfl
/-! words -/
def wd (w : List Int) : D := .tup (w.map D.int)
def Wd (K : Nat) (w : List Int) : Prop := (∀ x ∈ w, 0 ≤ x ∧ x < (K : Int)) ∧ 1 ≤ w.length ∧ w.length ≤ 20
def K23 (K : Nat) : Prop := K = 2 ∨ K = 3
def fairD (K : Nat) : D := .tup (List.replicate K (sh (fr' 1 K)))
theorem one_k {K : Nat} (h : K23 K) : D.tup [.int 1, .int (K : Int)] = sh (fr' 1 (K : Int)) := by
  rcases h with rfl | rfl <;> kernel_rfl
theorem fair_eq {K : Nat} (h : K23 K) : den_fair [.int (K : Int)] = some (fairD K) := by
  rw [den_fair, den_of]
  show fino (m_fair [some (.v (.int (K : Int)))]) = _
  have hk : 1 ≤ K ∧ K ≤ 40 := by rcases h with rfl | rfl <;> decide
  unfold m_fair
  simp -implicitDefEqProofs only [e_bdo, e_bdn, e_bd, e_ob, e_obn, e_grt, e_grf, e_set0, e_setS, e_can0, e_can1, e_can2, e_can3, e_canS, e_own0, e_ownS, e_iol0, e_iolS, e_gt0, e_gtS, e_var, e_rdv, e_rdo, e_c, e_drv, e_drs, e_drov, e_droo, e_tvv, e_tvs, e_tvov, e_tvoo, e_tvl0, e_tvl1, e_drl0, e_drl1, e_m2, e_m2F, e_m1, e_mT, e_tbo, e_mFr, e_nil, e_cons, e_mB, e_mBF, e_tup, e_lst, e_call, e_callF, e_callIO, e_ioo, e_and, e_andt, e_andf, e_or, e_ort, e_orf, e_not, e_noto, e_bot, e_bof, e_if, e_tand, e_tor, e_tnot, e_isi, e_seq, e_seqn, e_seqr, e_seqb, e_seqc, e_seqo, e_snil, e_sno, e_sif, e_ift, e_iff, e_set, e_setF, e_ret, e_expr, e_gvar, e_par, e_par2, e_par3o, e_par3, e_gtup, e_gcons, e_gnil, e_for, e_sq, e_sql, e_sqt, e_r1, e_rgo, e_r2, e_rgo2, e_frn, e_frv, e_fro, e_fr1, e_fr2, e_wi1, e_wi2, e_re1, e_re2, e_lc, e_lcT, e_lctt, e_lctf, e_slL, e_slo, e_oNo, e_oS, e_oso, e_cut1, e_rev, e_rvo, e_ch, e_cht, e_chf, e_six, e_sxo, e_ixs, e_lens, e_lsts, e_lstl, e_lstt, e_pow, e_eqb, e_neb, e_ntb, e_isbb, e_isn, e_non, e_gt2, e_tint_non, e_tint_bl, e_tint_int, e_tint_str, e_tint_tup, e_tint_lst, e_tint_scr, e_tbool_non, e_tbool_bl, e_tbool_int, e_tbool_str, e_tbool_tup, e_tbool_lst, e_tbool_scr, e_tstr_non, e_tstr_bl, e_tstr_int, e_tstr_str, e_tstr_tup, e_tstr_lst, e_tstr_scr, e_ttuple_non, e_ttuple_bl, e_ttuple_int, e_ttuple_str, e_ttuple_tup, e_ttuple_lst, e_ttuple_scr, e_tlist_non, e_tlist_bl, e_tlist_int, e_tlist_str, e_tlist_tup, e_tlist_lst, e_tlist_scr, e_forn, e_fcn, e_fcr, e_fcc, e_fcb, e_revT, e_rvT, e_lr, e_tr, e_rg1, e_rg2, e_rgo1, e_rg2o, e_en, e_enl, e_ent, e_zp, e_zpl, e_zpt, e_isi2, e_catT, e_catL, e_aug, e_ago, e_agn, e_meth1, e_meo, e_apd, e_dc, e_dcT, e_dctt, e_dctf, e_koi, e_kos, e_dg, e_augix, e_aug2, e_sl, e_sl2l, e_sl2t, e_repT, e_repL, e_yes, e_add, e_sub, e_mul, e_fdiv, e_mod, e_cmp, e_neg, e_ixt, e_ixl, e_at0, e_at1, e_at2, e_at3, e_eqi, e_nei, e_abs, e_int, e_intb, e_lenl, e_lent, e_tupl, e_tupt, e_can4, e_gtn, e_fori, e_fio, e_setdc, e_sdco, e_get2, e_isdk, e_geto, e_gtos, e_gton, e_newd, e_disp1, e_parok, e_parov, e_parvo, e_paroo, e_indc, e_nindc, e_max2, e_min2, e_meth0, e_me0, items_nil, items_cons, keyD_i, e_ch3, e_c3t, e_c3f, e_rgd2, e_rgv, e_rgvo, e_gsub, e_sub2, e_index, e_isl, e_lc2, bne_self_eq_false, beq_self_eq_true, Nat.reduceBEq, Nat.reduceEqDiff, List.length_cons, List.length_nil, Bool.and_true, Bool.true_and, lo1, lo2, lo3, lo4, lo5, decide_true, decide_false, fino2_r, fino_r, outo_r, outo_n, List.set_cons_zero, List.set_cons_succ, fino_n, Bool.not_true, Bool.not_false, is_whole_eq, decide_eq_true (show (1 : Int) ≤ (K : Int) by omega), decide_eq_true (show (K : Int) ≤ 40 by omega), one_k h, repT_one (d := sh (fr' 1 (K : Int))) (k := (K : Int)) (n := K) rfl (by omega)]
  rfl
theorem fr_pos {K : Nat} (h : K23 K) : 0 < (fr' 1 (K : Int)).num := by
  rcases h with rfl | rfl <;> decide +kernel
theorem fair_sz {K : Nat} (h : K23 K) : Sz 3 (fr' 1 (K : Int)) := by
  rcases h with rfl | rfl <;> exact ⟨by decide +kernel, by decide +kernel⟩
theorem fair_tot {K : Nat} (h : K23 K) : tot 0 (List.replicate K (fr' 1 (K : Int))) = 1 := by
  rcases h with rfl | rfl <;> decide +kernel
theorem look_chances {K : Nat} (h : K23 K) : den_look_at_chances [fairD K] = some .non := by
  have hk : 1 ≤ K ∧ K ≤ 40 := by rcases h with rfl | rfl <;> decide
  have ch : den_is_chance [sh (fr' 1 (K : Int))] = some (.bl true) := is_chance_eq (by omega) (by omega) (by omega)
  have t := total_eq (x := fairD K) (l := List.replicate K (fr' 1 (K : Int))) (j := 3) (.inr (by unfold fairD; rw [List.map_replicate])) (fun p hp => by rw [List.eq_of_mem_replicate hp]; exact fair_sz h) (by rw [List.length_replicate]; omega)
  rw [fair_tot h] at t
  have ar : den_are_chances [fairD K] = some (.bl true) := by
    rw [den_are_chances, den_of]
    show fino (m_are_chances [some (.v (fairD K)), none]) = _
    have e1 : lcL (gVar 1) tYes' (mCall den_is_chance (lCons (mVar 1) lNil)) [1] (List.replicate K (sh (fr' 1 (K : Int)))) [some (.v (fairD K)), none] = some ((List.replicate K (sh (fr' 1 (K : Int)))).map fun _ => .bl true, [some (.v (fairD K)), none]) := lc_map fun d hd => by
      rw [List.eq_of_mem_replicate hd]
      simp -implicitDefEqProofs only [e_bdo, e_bdn, e_bd, e_ob, e_obn, e_grt, e_grf, e_set0, e_setS, e_can0, e_can1, e_can2, e_can3, e_canS, e_own0, e_ownS, e_iol0, e_iolS, e_gt0, e_gtS, e_var, e_rdv, e_rdo, e_c, e_drv, e_drs, e_drov, e_droo, e_tvv, e_tvs, e_tvov, e_tvoo, e_tvl0, e_tvl1, e_drl0, e_drl1, e_m2, e_m2F, e_m1, e_mT, e_tbo, e_mFr, e_nil, e_cons, e_mB, e_mBF, e_tup, e_lst, e_call, e_callF, e_callIO, e_ioo, e_and, e_andt, e_andf, e_or, e_ort, e_orf, e_not, e_noto, e_bot, e_bof, e_if, e_tand, e_tor, e_tnot, e_isi, e_seq, e_seqn, e_seqr, e_seqb, e_seqc, e_seqo, e_snil, e_sno, e_sif, e_ift, e_iff, e_set, e_setF, e_ret, e_expr, e_gvar, e_par, e_par2, e_par3o, e_par3, e_gtup, e_gcons, e_gnil, e_for, e_sq, e_sql, e_sqt, e_r1, e_rgo, e_r2, e_rgo2, e_frn, e_frv, e_fro, e_fr1, e_fr2, e_wi1, e_wi2, e_re1, e_re2, e_lc, e_lcT, e_lctt, e_lctf, e_slL, e_slo, e_oNo, e_oS, e_oso, e_cut1, e_rev, e_rvo, e_ch, e_cht, e_chf, e_six, e_sxo, e_ixs, e_lens, e_lsts, e_lstl, e_lstt, e_pow, e_eqb, e_neb, e_ntb, e_isbb, e_isn, e_non, e_gt2, e_tint_non, e_tint_bl, e_tint_int, e_tint_str, e_tint_tup, e_tint_lst, e_tint_scr, e_tbool_non, e_tbool_bl, e_tbool_int, e_tbool_str, e_tbool_tup, e_tbool_lst, e_tbool_scr, e_tstr_non, e_tstr_bl, e_tstr_int, e_tstr_str, e_tstr_tup, e_tstr_lst, e_tstr_scr, e_ttuple_non, e_ttuple_bl, e_ttuple_int, e_ttuple_str, e_ttuple_tup, e_ttuple_lst, e_ttuple_scr, e_tlist_non, e_tlist_bl, e_tlist_int, e_tlist_str, e_tlist_tup, e_tlist_lst, e_tlist_scr, e_forn, e_fcn, e_fcr, e_fcc, e_fcb, e_revT, e_rvT, e_lr, e_tr, e_rg1, e_rg2, e_rgo1, e_rg2o, e_en, e_enl, e_ent, e_zp, e_zpl, e_zpt, e_isi2, e_catT, e_catL, e_aug, e_ago, e_agn, e_meth1, e_meo, e_apd, e_dc, e_dcT, e_dctt, e_dctf, e_koi, e_kos, e_dg, e_augix, e_aug2, e_sl, e_sl2l, e_sl2t, e_repT, e_repL, e_yes, e_add, e_sub, e_mul, e_fdiv, e_mod, e_cmp, e_neg, e_ixt, e_ixl, e_at0, e_at1, e_at2, e_at3, e_eqi, e_nei, e_abs, e_int, e_intb, e_lenl, e_lent, e_tupl, e_tupt, e_can4, e_gtn, e_fori, e_fio, e_setdc, e_sdco, e_get2, e_isdk, e_geto, e_gtos, e_gton, e_newd, e_disp1, e_parok, e_parov, e_parvo, e_paroo, e_indc, e_nindc, e_max2, e_min2, e_meth0, e_me0, items_nil, items_cons, keyD_i, e_ch3, e_c3t, e_c3f, e_rgd2, e_rgv, e_rgvo, e_gsub, e_sub2, e_index, e_isl, e_lc2, bne_self_eq_false, beq_self_eq_true, Nat.reduceBEq, Nat.reduceEqDiff, List.length_cons, List.length_nil, Bool.and_true, Bool.true_and, lo1, lo2, lo3, lo4, lo5, decide_true, decide_false, fino2_r, fino_r, outo_r, outo_n, List.set_cons_zero, List.set_cons_succ, fino_n, Bool.not_true, Bool.not_false, ch]
    have one : D.tup [D.int 1, D.int 1] = sh 1 := rfl
    unfold m_are_chances
    unfold fairD at *
    simp -implicitDefEqProofs only [e_bdo, e_bdn, e_bd, e_ob, e_obn, e_grt, e_grf, e_set0, e_setS, e_can0, e_can1, e_can2, e_can3, e_canS, e_own0, e_ownS, e_iol0, e_iolS, e_gt0, e_gtS, e_var, e_rdv, e_rdo, e_c, e_drv, e_drs, e_drov, e_droo, e_tvv, e_tvs, e_tvov, e_tvoo, e_tvl0, e_tvl1, e_drl0, e_drl1, e_m2, e_m2F, e_m1, e_mT, e_tbo, e_mFr, e_nil, e_cons, e_mB, e_mBF, e_tup, e_lst, e_call, e_callF, e_callIO, e_ioo, e_and, e_andt, e_andf, e_or, e_ort, e_orf, e_not, e_noto, e_bot, e_bof, e_if, e_tand, e_tor, e_tnot, e_isi, e_seq, e_seqn, e_seqr, e_seqb, e_seqc, e_seqo, e_snil, e_sno, e_sif, e_ift, e_iff, e_set, e_setF, e_ret, e_expr, e_gvar, e_par, e_par2, e_par3o, e_par3, e_gtup, e_gcons, e_gnil, e_for, e_sq, e_sql, e_sqt, e_r1, e_rgo, e_r2, e_rgo2, e_frn, e_frv, e_fro, e_fr1, e_fr2, e_wi1, e_wi2, e_re1, e_re2, e_lc, e_lcT, e_lctt, e_lctf, e_slL, e_slo, e_oNo, e_oS, e_oso, e_cut1, e_rev, e_rvo, e_ch, e_cht, e_chf, e_six, e_sxo, e_ixs, e_lens, e_lsts, e_lstl, e_lstt, e_pow, e_eqb, e_neb, e_ntb, e_isbb, e_isn, e_non, e_gt2, e_tint_non, e_tint_bl, e_tint_int, e_tint_str, e_tint_tup, e_tint_lst, e_tint_scr, e_tbool_non, e_tbool_bl, e_tbool_int, e_tbool_str, e_tbool_tup, e_tbool_lst, e_tbool_scr, e_tstr_non, e_tstr_bl, e_tstr_int, e_tstr_str, e_tstr_tup, e_tstr_lst, e_tstr_scr, e_ttuple_non, e_ttuple_bl, e_ttuple_int, e_ttuple_str, e_ttuple_tup, e_ttuple_lst, e_ttuple_scr, e_tlist_non, e_tlist_bl, e_tlist_int, e_tlist_str, e_tlist_tup, e_tlist_lst, e_tlist_scr, e_forn, e_fcn, e_fcr, e_fcc, e_fcb, e_revT, e_rvT, e_lr, e_tr, e_rg1, e_rg2, e_rgo1, e_rg2o, e_en, e_enl, e_ent, e_zp, e_zpl, e_zpt, e_isi2, e_catT, e_catL, e_aug, e_ago, e_agn, e_meth1, e_meo, e_apd, e_dc, e_dcT, e_dctt, e_dctf, e_koi, e_kos, e_dg, e_augix, e_aug2, e_sl, e_sl2l, e_sl2t, e_repT, e_repL, e_yes, e_add, e_sub, e_mul, e_fdiv, e_mod, e_cmp, e_neg, e_ixt, e_ixl, e_at0, e_at1, e_at2, e_at3, e_eqi, e_nei, e_abs, e_int, e_intb, e_lenl, e_lent, e_tupl, e_tupt, e_can4, e_gtn, e_fori, e_fio, e_setdc, e_sdco, e_get2, e_isdk, e_geto, e_gtos, e_gton, e_newd, e_disp1, e_parok, e_parov, e_parvo, e_paroo, e_indc, e_nindc, e_max2, e_min2, e_meth0, e_me0, items_nil, items_cons, keyD_i, e_ch3, e_c3t, e_c3f, e_rgd2, e_rgv, e_rgvo, e_gsub, e_sub2, e_index, e_isl, e_lc2, bne_self_eq_false, beq_self_eq_true, Nat.reduceBEq, Nat.reduceEqDiff, List.length_cons, List.length_nil, Bool.and_true, Bool.true_and, lo1, lo2, lo3, lo4, lo5, decide_true, decide_false, fino2_r, fino_r, outo_r, outo_n, List.set_cons_zero, List.set_cons_succ, fino_n, Bool.not_true, Bool.not_false, List.length_replicate, e_eqi, decide_eq_false (show ¬ (K : Int) = 0 by omega), show lineOk K = true from decide_eq_true (by omega), e1, all_true, t, one, eq_sh]
  rw [den_look_at_chances, den_of]
  show fino (m_look_at_chances [some (.v (fairD K))]) = _
  unfold m_look_at_chances
  simp -implicitDefEqProofs only [e_bdo, e_bdn, e_bd, e_ob, e_obn, e_grt, e_grf, e_set0, e_setS, e_can0, e_can1, e_can2, e_can3, e_canS, e_own0, e_ownS, e_iol0, e_iolS, e_gt0, e_gtS, e_var, e_rdv, e_rdo, e_c, e_drv, e_drs, e_drov, e_droo, e_tvv, e_tvs, e_tvov, e_tvoo, e_tvl0, e_tvl1, e_drl0, e_drl1, e_m2, e_m2F, e_m1, e_mT, e_tbo, e_mFr, e_nil, e_cons, e_mB, e_mBF, e_tup, e_lst, e_call, e_callF, e_callIO, e_ioo, e_and, e_andt, e_andf, e_or, e_ort, e_orf, e_not, e_noto, e_bot, e_bof, e_if, e_tand, e_tor, e_tnot, e_isi, e_seq, e_seqn, e_seqr, e_seqb, e_seqc, e_seqo, e_snil, e_sno, e_sif, e_ift, e_iff, e_set, e_setF, e_ret, e_expr, e_gvar, e_par, e_par2, e_par3o, e_par3, e_gtup, e_gcons, e_gnil, e_for, e_sq, e_sql, e_sqt, e_r1, e_rgo, e_r2, e_rgo2, e_frn, e_frv, e_fro, e_fr1, e_fr2, e_wi1, e_wi2, e_re1, e_re2, e_lc, e_lcT, e_lctt, e_lctf, e_slL, e_slo, e_oNo, e_oS, e_oso, e_cut1, e_rev, e_rvo, e_ch, e_cht, e_chf, e_six, e_sxo, e_ixs, e_lens, e_lsts, e_lstl, e_lstt, e_pow, e_eqb, e_neb, e_ntb, e_isbb, e_isn, e_non, e_gt2, e_tint_non, e_tint_bl, e_tint_int, e_tint_str, e_tint_tup, e_tint_lst, e_tint_scr, e_tbool_non, e_tbool_bl, e_tbool_int, e_tbool_str, e_tbool_tup, e_tbool_lst, e_tbool_scr, e_tstr_non, e_tstr_bl, e_tstr_int, e_tstr_str, e_tstr_tup, e_tstr_lst, e_tstr_scr, e_ttuple_non, e_ttuple_bl, e_ttuple_int, e_ttuple_str, e_ttuple_tup, e_ttuple_lst, e_ttuple_scr, e_tlist_non, e_tlist_bl, e_tlist_int, e_tlist_str, e_tlist_tup, e_tlist_lst, e_tlist_scr, e_forn, e_fcn, e_fcr, e_fcc, e_fcb, e_revT, e_rvT, e_lr, e_tr, e_rg1, e_rg2, e_rgo1, e_rg2o, e_en, e_enl, e_ent, e_zp, e_zpl, e_zpt, e_isi2, e_catT, e_catL, e_aug, e_ago, e_agn, e_meth1, e_meo, e_apd, e_dc, e_dcT, e_dctt, e_dctf, e_koi, e_kos, e_dg, e_augix, e_aug2, e_sl, e_sl2l, e_sl2t, e_repT, e_repL, e_yes, e_add, e_sub, e_mul, e_fdiv, e_mod, e_cmp, e_neg, e_ixt, e_ixl, e_at0, e_at1, e_at2, e_at3, e_eqi, e_nei, e_abs, e_int, e_intb, e_lenl, e_lent, e_tupl, e_tupt, e_can4, e_gtn, e_fori, e_fio, e_setdc, e_sdco, e_get2, e_isdk, e_geto, e_gtos, e_gton, e_newd, e_disp1, e_parok, e_parov, e_parvo, e_paroo, e_indc, e_nindc, e_max2, e_min2, e_meth0, e_me0, items_nil, items_cons, keyD_i, e_ch3, e_c3t, e_c3f, e_rgd2, e_rgv, e_rgvo, e_gsub, e_sub2, e_index, e_isl, e_lc2, bne_self_eq_false, beq_self_eq_true, Nat.reduceBEq, Nat.reduceEqDiff, List.length_cons, List.length_nil, Bool.and_true, Bool.true_and, lo1, lo2, lo3, lo4, lo5, decide_true, decide_false, fino2_r, fino_r, outo_r, outo_n, List.set_cons_zero, List.set_cons_succ, fino_n, Bool.not_true, Bool.not_false, ar]
theorem fair_at {K : Nat} {x : Int} (h : 0 ≤ x ∧ x < (K : Int)) : atI (List.replicate K (sh (fr' 1 (K : Int)))) x = some (sh (fr' 1 (K : Int))) := by
  obtain ⟨n, rfl⟩ := Int.eq_ofNat_of_zero_le h.1
  exact at_nat (by rw [List.getElem?_replicate, if_pos (by omega)])
theorem is_word_eq {K : Nat} {w : List Int} (h : Wd K w) : den_is_word [.int (K : Int), wd w] = some (.bl true) := by
  rw [den_is_word, den_of]
  show fino (m_is_word [some (.v (.int (K : Int))), some (.v (wd w)), none]) = _
  have h1 := h.2.1
  have h2 := h.2.2
  have e1 : lcL (gVar 2) tYes' (eAnd (mCall den_is_whole (lCons (mVar 2) lNil)) (mCh (cmpI fun i j => decide (i ≤ j)) (cmpI fun i j => decide (i < j)) (mC (.int 0)) (mVar 2) (mVar 0))) [2] (w.map D.int) [some (.v (.int (K : Int))), some (.v (.tup (w.map D.int))), none] = some ((w.map D.int).map fun _ => .bl true, [some (.v (.int (K : Int))), some (.v (.tup (w.map D.int))), none]) := lc_map fun d hd => by
    obtain ⟨x, hx, rfl⟩ := mem_int hd
    have := h.1 x hx
    simp -implicitDefEqProofs only [e_bdo, e_bdn, e_bd, e_ob, e_obn, e_grt, e_grf, e_set0, e_setS, e_can0, e_can1, e_can2, e_can3, e_canS, e_own0, e_ownS, e_iol0, e_iolS, e_gt0, e_gtS, e_var, e_rdv, e_rdo, e_c, e_drv, e_drs, e_drov, e_droo, e_tvv, e_tvs, e_tvov, e_tvoo, e_tvl0, e_tvl1, e_drl0, e_drl1, e_m2, e_m2F, e_m1, e_mT, e_tbo, e_mFr, e_nil, e_cons, e_mB, e_mBF, e_tup, e_lst, e_call, e_callF, e_callIO, e_ioo, e_and, e_andt, e_andf, e_or, e_ort, e_orf, e_not, e_noto, e_bot, e_bof, e_if, e_tand, e_tor, e_tnot, e_isi, e_seq, e_seqn, e_seqr, e_seqb, e_seqc, e_seqo, e_snil, e_sno, e_sif, e_ift, e_iff, e_set, e_setF, e_ret, e_expr, e_gvar, e_par, e_par2, e_par3o, e_par3, e_gtup, e_gcons, e_gnil, e_for, e_sq, e_sql, e_sqt, e_r1, e_rgo, e_r2, e_rgo2, e_frn, e_frv, e_fro, e_fr1, e_fr2, e_wi1, e_wi2, e_re1, e_re2, e_lc, e_lcT, e_lctt, e_lctf, e_slL, e_slo, e_oNo, e_oS, e_oso, e_cut1, e_rev, e_rvo, e_ch, e_cht, e_chf, e_six, e_sxo, e_ixs, e_lens, e_lsts, e_lstl, e_lstt, e_pow, e_eqb, e_neb, e_ntb, e_isbb, e_isn, e_non, e_gt2, e_tint_non, e_tint_bl, e_tint_int, e_tint_str, e_tint_tup, e_tint_lst, e_tint_scr, e_tbool_non, e_tbool_bl, e_tbool_int, e_tbool_str, e_tbool_tup, e_tbool_lst, e_tbool_scr, e_tstr_non, e_tstr_bl, e_tstr_int, e_tstr_str, e_tstr_tup, e_tstr_lst, e_tstr_scr, e_ttuple_non, e_ttuple_bl, e_ttuple_int, e_ttuple_str, e_ttuple_tup, e_ttuple_lst, e_ttuple_scr, e_tlist_non, e_tlist_bl, e_tlist_int, e_tlist_str, e_tlist_tup, e_tlist_lst, e_tlist_scr, e_forn, e_fcn, e_fcr, e_fcc, e_fcb, e_revT, e_rvT, e_lr, e_tr, e_rg1, e_rg2, e_rgo1, e_rg2o, e_en, e_enl, e_ent, e_zp, e_zpl, e_zpt, e_isi2, e_catT, e_catL, e_aug, e_ago, e_agn, e_meth1, e_meo, e_apd, e_dc, e_dcT, e_dctt, e_dctf, e_koi, e_kos, e_dg, e_augix, e_aug2, e_sl, e_sl2l, e_sl2t, e_repT, e_repL, e_yes, e_add, e_sub, e_mul, e_fdiv, e_mod, e_cmp, e_neg, e_ixt, e_ixl, e_at0, e_at1, e_at2, e_at3, e_eqi, e_nei, e_abs, e_int, e_intb, e_lenl, e_lent, e_tupl, e_tupt, e_can4, e_gtn, e_fori, e_fio, e_setdc, e_sdco, e_get2, e_isdk, e_geto, e_gtos, e_gton, e_newd, e_disp1, e_parok, e_parov, e_parvo, e_paroo, e_indc, e_nindc, e_max2, e_min2, e_meth0, e_me0, items_nil, items_cons, keyD_i, e_ch3, e_c3t, e_c3f, e_rgd2, e_rgv, e_rgvo, e_gsub, e_sub2, e_index, e_isl, e_lc2, bne_self_eq_false, beq_self_eq_true, Nat.reduceBEq, Nat.reduceEqDiff, List.length_cons, List.length_nil, Bool.and_true, Bool.true_and, lo1, lo2, lo3, lo4, lo5, decide_true, decide_false, fino2_r, fino_r, outo_r, outo_n, List.set_cons_zero, List.set_cons_succ, fino_n, Bool.not_true, Bool.not_false, is_whole_eq, decide_eq_true this.1, decide_eq_true this.2]
  unfold m_is_word wd
  simp -implicitDefEqProofs only [e_bdo, e_bdn, e_bd, e_ob, e_obn, e_grt, e_grf, e_set0, e_setS, e_can0, e_can1, e_can2, e_can3, e_canS, e_own0, e_ownS, e_iol0, e_iolS, e_gt0, e_gtS, e_var, e_rdv, e_rdo, e_c, e_drv, e_drs, e_drov, e_droo, e_tvv, e_tvs, e_tvov, e_tvoo, e_tvl0, e_tvl1, e_drl0, e_drl1, e_m2, e_m2F, e_m1, e_mT, e_tbo, e_mFr, e_nil, e_cons, e_mB, e_mBF, e_tup, e_lst, e_call, e_callF, e_callIO, e_ioo, e_and, e_andt, e_andf, e_or, e_ort, e_orf, e_not, e_noto, e_bot, e_bof, e_if, e_tand, e_tor, e_tnot, e_isi, e_seq, e_seqn, e_seqr, e_seqb, e_seqc, e_seqo, e_snil, e_sno, e_sif, e_ift, e_iff, e_set, e_setF, e_ret, e_expr, e_gvar, e_par, e_par2, e_par3o, e_par3, e_gtup, e_gcons, e_gnil, e_for, e_sq, e_sql, e_sqt, e_r1, e_rgo, e_r2, e_rgo2, e_frn, e_frv, e_fro, e_fr1, e_fr2, e_wi1, e_wi2, e_re1, e_re2, e_lc, e_lcT, e_lctt, e_lctf, e_slL, e_slo, e_oNo, e_oS, e_oso, e_cut1, e_rev, e_rvo, e_ch, e_cht, e_chf, e_six, e_sxo, e_ixs, e_lens, e_lsts, e_lstl, e_lstt, e_pow, e_eqb, e_neb, e_ntb, e_isbb, e_isn, e_non, e_gt2, e_tint_non, e_tint_bl, e_tint_int, e_tint_str, e_tint_tup, e_tint_lst, e_tint_scr, e_tbool_non, e_tbool_bl, e_tbool_int, e_tbool_str, e_tbool_tup, e_tbool_lst, e_tbool_scr, e_tstr_non, e_tstr_bl, e_tstr_int, e_tstr_str, e_tstr_tup, e_tstr_lst, e_tstr_scr, e_ttuple_non, e_ttuple_bl, e_ttuple_int, e_ttuple_str, e_ttuple_tup, e_ttuple_lst, e_ttuple_scr, e_tlist_non, e_tlist_bl, e_tlist_int, e_tlist_str, e_tlist_tup, e_tlist_lst, e_tlist_scr, e_forn, e_fcn, e_fcr, e_fcc, e_fcb, e_revT, e_rvT, e_lr, e_tr, e_rg1, e_rg2, e_rgo1, e_rg2o, e_en, e_enl, e_ent, e_zp, e_zpl, e_zpt, e_isi2, e_catT, e_catL, e_aug, e_ago, e_agn, e_meth1, e_meo, e_apd, e_dc, e_dcT, e_dctt, e_dctf, e_koi, e_kos, e_dg, e_augix, e_aug2, e_sl, e_sl2l, e_sl2t, e_repT, e_repL, e_yes, e_add, e_sub, e_mul, e_fdiv, e_mod, e_cmp, e_neg, e_ixt, e_ixl, e_at0, e_at1, e_at2, e_at3, e_eqi, e_nei, e_abs, e_int, e_intb, e_lenl, e_lent, e_tupl, e_tupt, e_can4, e_gtn, e_fori, e_fio, e_setdc, e_sdco, e_get2, e_isdk, e_geto, e_gtos, e_gton, e_newd, e_disp1, e_parok, e_parov, e_parvo, e_paroo, e_indc, e_nindc, e_max2, e_min2, e_meth0, e_me0, items_nil, items_cons, keyD_i, e_ch3, e_c3t, e_c3f, e_rgd2, e_rgv, e_rgvo, e_gsub, e_sub2, e_index, e_isl, e_lc2, bne_self_eq_false, beq_self_eq_true, Nat.reduceBEq, Nat.reduceEqDiff, List.length_cons, List.length_nil, Bool.and_true, Bool.true_and, lo1, lo2, lo3, lo4, lo5, decide_true, decide_false, fino2_r, fino_r, outo_r, outo_n, List.set_cons_zero, List.set_cons_succ, fino_n, Bool.not_true, Bool.not_false, List.length_map, decide_eq_true (show (0 : Int) < (w.length : Int) by omega), decide_eq_true (show (w.length : Int) ≤ 40 by omega), show lineOk w.length = true from decide_eq_true (by omega), e1, all_true]
theorem look_word {K : Nat} (hk : K23 K) {w : List Int} (h : Wd K w) : den_look_at_word [fairD K, wd w] = some .non := by
  rw [den_look_at_word, den_of]
  show fino (m_look_at_word [some (.v (fairD K)), some (.v (wd w)), none]) = _
  have h2 := h.2.2
  have iw := is_word_eq h
  have lc := look_chances hk
  have fp := fr_pos hk
  have e1 : lcL (gVar 2) tYes' (m2 (cmpI fun i j => decide (j < i)) (m2 ixD (m2 ixD (mVar 0) (mVar 2)) (mC (.int 0))) (mC (.int 0))) [2] (w.map D.int) [some (.v (.tup (List.replicate K (sh (fr' 1 (K : Int)))))), some (.v (.tup (w.map D.int))), none] = some ((w.map D.int).map fun _ => .bl true, [some (.v (.tup (List.replicate K (sh (fr' 1 (K : Int)))))), some (.v (.tup (w.map D.int))), none]) := lc_map fun d hd => by
    obtain ⟨x, hx, rfl⟩ := mem_int hd
    have hx0 : ixD (sh (fr' 1 (K : Int))) (.int 0) = some (.int (fr' 1 (K : Int)).num) := rfl
    simp -implicitDefEqProofs only [e_bdo, e_bdn, e_bd, e_ob, e_obn, e_grt, e_grf, e_set0, e_setS, e_can0, e_can1, e_can2, e_can3, e_canS, e_own0, e_ownS, e_iol0, e_iolS, e_gt0, e_gtS, e_var, e_rdv, e_rdo, e_c, e_drv, e_drs, e_drov, e_droo, e_tvv, e_tvs, e_tvov, e_tvoo, e_tvl0, e_tvl1, e_drl0, e_drl1, e_m2, e_m2F, e_m1, e_mT, e_tbo, e_mFr, e_nil, e_cons, e_mB, e_mBF, e_tup, e_lst, e_call, e_callF, e_callIO, e_ioo, e_and, e_andt, e_andf, e_or, e_ort, e_orf, e_not, e_noto, e_bot, e_bof, e_if, e_tand, e_tor, e_tnot, e_isi, e_seq, e_seqn, e_seqr, e_seqb, e_seqc, e_seqo, e_snil, e_sno, e_sif, e_ift, e_iff, e_set, e_setF, e_ret, e_expr, e_gvar, e_par, e_par2, e_par3o, e_par3, e_gtup, e_gcons, e_gnil, e_for, e_sq, e_sql, e_sqt, e_r1, e_rgo, e_r2, e_rgo2, e_frn, e_frv, e_fro, e_fr1, e_fr2, e_wi1, e_wi2, e_re1, e_re2, e_lc, e_lcT, e_lctt, e_lctf, e_slL, e_slo, e_oNo, e_oS, e_oso, e_cut1, e_rev, e_rvo, e_ch, e_cht, e_chf, e_six, e_sxo, e_ixs, e_lens, e_lsts, e_lstl, e_lstt, e_pow, e_eqb, e_neb, e_ntb, e_isbb, e_isn, e_non, e_gt2, e_tint_non, e_tint_bl, e_tint_int, e_tint_str, e_tint_tup, e_tint_lst, e_tint_scr, e_tbool_non, e_tbool_bl, e_tbool_int, e_tbool_str, e_tbool_tup, e_tbool_lst, e_tbool_scr, e_tstr_non, e_tstr_bl, e_tstr_int, e_tstr_str, e_tstr_tup, e_tstr_lst, e_tstr_scr, e_ttuple_non, e_ttuple_bl, e_ttuple_int, e_ttuple_str, e_ttuple_tup, e_ttuple_lst, e_ttuple_scr, e_tlist_non, e_tlist_bl, e_tlist_int, e_tlist_str, e_tlist_tup, e_tlist_lst, e_tlist_scr, e_forn, e_fcn, e_fcr, e_fcc, e_fcb, e_revT, e_rvT, e_lr, e_tr, e_rg1, e_rg2, e_rgo1, e_rg2o, e_en, e_enl, e_ent, e_zp, e_zpl, e_zpt, e_isi2, e_catT, e_catL, e_aug, e_ago, e_agn, e_meth1, e_meo, e_apd, e_dc, e_dcT, e_dctt, e_dctf, e_koi, e_kos, e_dg, e_augix, e_aug2, e_sl, e_sl2l, e_sl2t, e_repT, e_repL, e_yes, e_add, e_sub, e_mul, e_fdiv, e_mod, e_cmp, e_neg, e_ixt, e_ixl, e_at0, e_at1, e_at2, e_at3, e_eqi, e_nei, e_abs, e_int, e_intb, e_lenl, e_lent, e_tupl, e_tupt, e_can4, e_gtn, e_fori, e_fio, e_setdc, e_sdco, e_get2, e_isdk, e_geto, e_gtos, e_gton, e_newd, e_disp1, e_parok, e_parov, e_parvo, e_paroo, e_indc, e_nindc, e_max2, e_min2, e_meth0, e_me0, items_nil, items_cons, keyD_i, e_ch3, e_c3t, e_c3f, e_rgd2, e_rgv, e_rgvo, e_gsub, e_sub2, e_index, e_isl, e_lc2, bne_self_eq_false, beq_self_eq_true, Nat.reduceBEq, Nat.reduceEqDiff, List.length_cons, List.length_nil, Bool.and_true, Bool.true_and, lo1, lo2, lo3, lo4, lo5, decide_true, decide_false, fino2_r, fino_r, outo_r, outo_n, List.set_cons_zero, List.set_cons_succ, fino_n, Bool.not_true, Bool.not_false, fair_at (h.1 x hx), hx0, decide_eq_true fp]
  unfold m_look_at_word
  unfold fairD wd at *
  simp -implicitDefEqProofs only [e_bdo, e_bdn, e_bd, e_ob, e_obn, e_grt, e_grf, e_set0, e_setS, e_can0, e_can1, e_can2, e_can3, e_canS, e_own0, e_ownS, e_iol0, e_iolS, e_gt0, e_gtS, e_var, e_rdv, e_rdo, e_c, e_drv, e_drs, e_drov, e_droo, e_tvv, e_tvs, e_tvov, e_tvoo, e_tvl0, e_tvl1, e_drl0, e_drl1, e_m2, e_m2F, e_m1, e_mT, e_tbo, e_mFr, e_nil, e_cons, e_mB, e_mBF, e_tup, e_lst, e_call, e_callF, e_callIO, e_ioo, e_and, e_andt, e_andf, e_or, e_ort, e_orf, e_not, e_noto, e_bot, e_bof, e_if, e_tand, e_tor, e_tnot, e_isi, e_seq, e_seqn, e_seqr, e_seqb, e_seqc, e_seqo, e_snil, e_sno, e_sif, e_ift, e_iff, e_set, e_setF, e_ret, e_expr, e_gvar, e_par, e_par2, e_par3o, e_par3, e_gtup, e_gcons, e_gnil, e_for, e_sq, e_sql, e_sqt, e_r1, e_rgo, e_r2, e_rgo2, e_frn, e_frv, e_fro, e_fr1, e_fr2, e_wi1, e_wi2, e_re1, e_re2, e_lc, e_lcT, e_lctt, e_lctf, e_slL, e_slo, e_oNo, e_oS, e_oso, e_cut1, e_rev, e_rvo, e_ch, e_cht, e_chf, e_six, e_sxo, e_ixs, e_lens, e_lsts, e_lstl, e_lstt, e_pow, e_eqb, e_neb, e_ntb, e_isbb, e_isn, e_non, e_gt2, e_tint_non, e_tint_bl, e_tint_int, e_tint_str, e_tint_tup, e_tint_lst, e_tint_scr, e_tbool_non, e_tbool_bl, e_tbool_int, e_tbool_str, e_tbool_tup, e_tbool_lst, e_tbool_scr, e_tstr_non, e_tstr_bl, e_tstr_int, e_tstr_str, e_tstr_tup, e_tstr_lst, e_tstr_scr, e_ttuple_non, e_ttuple_bl, e_ttuple_int, e_ttuple_str, e_ttuple_tup, e_ttuple_lst, e_ttuple_scr, e_tlist_non, e_tlist_bl, e_tlist_int, e_tlist_str, e_tlist_tup, e_tlist_lst, e_tlist_scr, e_forn, e_fcn, e_fcr, e_fcc, e_fcb, e_revT, e_rvT, e_lr, e_tr, e_rg1, e_rg2, e_rgo1, e_rg2o, e_en, e_enl, e_ent, e_zp, e_zpl, e_zpt, e_isi2, e_catT, e_catL, e_aug, e_ago, e_agn, e_meth1, e_meo, e_apd, e_dc, e_dcT, e_dctt, e_dctf, e_koi, e_kos, e_dg, e_augix, e_aug2, e_sl, e_sl2l, e_sl2t, e_repT, e_repL, e_yes, e_add, e_sub, e_mul, e_fdiv, e_mod, e_cmp, e_neg, e_ixt, e_ixl, e_at0, e_at1, e_at2, e_at3, e_eqi, e_nei, e_abs, e_int, e_intb, e_lenl, e_lent, e_tupl, e_tupt, e_can4, e_gtn, e_fori, e_fio, e_setdc, e_sdco, e_get2, e_isdk, e_geto, e_gtos, e_gton, e_newd, e_disp1, e_parok, e_parov, e_parvo, e_paroo, e_indc, e_nindc, e_max2, e_min2, e_meth0, e_me0, items_nil, items_cons, keyD_i, e_ch3, e_c3t, e_c3f, e_rgd2, e_rgv, e_rgvo, e_gsub, e_sub2, e_index, e_isl, e_lc2, bne_self_eq_false, beq_self_eq_true, Nat.reduceBEq, Nat.reduceEqDiff, List.length_cons, List.length_nil, Bool.and_true, Bool.true_and, lo1, lo2, lo3, lo4, lo5, decide_true, decide_false, fino2_r, fino_r, outo_r, outo_n, List.set_cons_zero, List.set_cons_succ, fino_n, Bool.not_true, Bool.not_false, lc, List.length_replicate, iw, List.length_map, show lineOk w.length = true from decide_eq_true (by omega), e1, all_true]
def ovl (a b : List Int) : List Nat := ((List.range (min a.length b.length)).filter fun i => decide (a.drop (a.length - (i + 1)) = b.take (i + 1))).map (· + 1)
theorem ovl_mem {a b : List Int} {m : Nat} (h : m ∈ ovl a b) : 1 ≤ m ∧ m ≤ a.length ∧ m ≤ b.length := by
  unfold ovl at h
  obtain ⟨i, hi, rfl⟩ := List.mem_map.mp h
  have := List.mem_range.mp (List.mem_filter.mp hi).1
  omega
theorem ovl_len (a b : List Int) : (ovl a b).length ≤ b.length := by
  unfold ovl
  rw [List.length_map]
  have := List.length_filter_le (fun i => decide (a.drop (a.length - (i + 1)) = b.take (i + 1))) (List.range (min a.length b.length))
  rw [List.length_range] at this
  omega
theorem overlaps_eq {a b : List Int} (ha : a.length ≤ 20) (hb : b.length ≤ 20) : den_overlaps [wd a, wd b] = some (.tup ((ovl a b).map fun (m : Nat) => D.int (m : Int))) := by
  rw [den_overlaps, den_of]
  show fino (m_overlaps [some (.v (wd a)), some (.v (wd b)), none, none]) = _
  have mn : (if (b.length : Int) < (a.length : Int) then (b.length : Int) else (a.length : Int)) = ((min a.length b.length : Nat) : Int) := by split <;> omega
  have e1 : lcL (gVar 3) (mT (m2 eqD (mSl (mVar 0) (oSome (m2 subI (mB lenD (lCons (mVar 0) lNil)) (mVar 3))) oNo) (mSl (mVar 1) oNo (oSome (mVar 3))))) (mVar 3) [3] (rngL 1 (min a.length b.length)) [some (.v (.tup (a.map D.int))), some (.v (.tup (b.map D.int))), some (.v (.rg 1 (((min a.length b.length : Nat) : Int) + 1))), none] = some ((ovl a b).map (fun (m : Nat) => D.int (m : Int)), [some (.v (.tup (a.map D.int))), some (.v (.tup (b.map D.int))), some (.v (.rg 1 (((min a.length b.length : Nat) : Int) + 1))), none]) := by
    unfold ovl
    rw [List.map_map]
    exact lc_filtE (fun (i : Nat) => D.int (1 + (i : Int))) _ (fun i => decide (a.drop (a.length - (i + 1)) = b.take (i + 1))) fun i hi => by
      have hi := List.mem_range.mp hi
      have q1 := cut_from (xs := a.map D.int) (k := a.length - (i + 1)) (by rw [List.length_map]; omega)
      have q2 := cut_to (xs := b.map D.int) (k := i + 1) (by rw [List.length_map]; omega)
      rw [← List.map_drop] at q1
      rw [← List.map_take] at q2
      by_cases z : a.drop (a.length - (i + 1)) = b.take (i + 1)
      · simp -implicitDefEqProofs only [e_bdo, e_bdn, e_bd, e_ob, e_obn, e_grt, e_grf, e_set0, e_setS, e_can0, e_can1, e_can2, e_can3, e_canS, e_own0, e_ownS, e_iol0, e_iolS, e_gt0, e_gtS, e_var, e_rdv, e_rdo, e_c, e_drv, e_drs, e_drov, e_droo, e_tvv, e_tvs, e_tvov, e_tvoo, e_tvl0, e_tvl1, e_drl0, e_drl1, e_m2, e_m2F, e_m1, e_mT, e_tbo, e_mFr, e_nil, e_cons, e_mB, e_mBF, e_tup, e_lst, e_call, e_callF, e_callIO, e_ioo, e_and, e_andt, e_andf, e_or, e_ort, e_orf, e_not, e_noto, e_bot, e_bof, e_if, e_tand, e_tor, e_tnot, e_isi, e_seq, e_seqn, e_seqr, e_seqb, e_seqc, e_seqo, e_snil, e_sno, e_sif, e_ift, e_iff, e_set, e_setF, e_ret, e_expr, e_gvar, e_par, e_par2, e_par3o, e_par3, e_gtup, e_gcons, e_gnil, e_for, e_sq, e_sql, e_sqt, e_r1, e_rgo, e_r2, e_rgo2, e_frn, e_frv, e_fro, e_fr1, e_fr2, e_wi1, e_wi2, e_re1, e_re2, e_lc, e_lcT, e_lctt, e_lctf, e_slL, e_slo, e_oNo, e_oS, e_oso, e_cut1, e_rev, e_rvo, e_ch, e_cht, e_chf, e_six, e_sxo, e_ixs, e_lens, e_lsts, e_lstl, e_lstt, e_pow, e_eqb, e_neb, e_ntb, e_isbb, e_isn, e_non, e_gt2, e_tint_non, e_tint_bl, e_tint_int, e_tint_str, e_tint_tup, e_tint_lst, e_tint_scr, e_tbool_non, e_tbool_bl, e_tbool_int, e_tbool_str, e_tbool_tup, e_tbool_lst, e_tbool_scr, e_tstr_non, e_tstr_bl, e_tstr_int, e_tstr_str, e_tstr_tup, e_tstr_lst, e_tstr_scr, e_ttuple_non, e_ttuple_bl, e_ttuple_int, e_ttuple_str, e_ttuple_tup, e_ttuple_lst, e_ttuple_scr, e_tlist_non, e_tlist_bl, e_tlist_int, e_tlist_str, e_tlist_tup, e_tlist_lst, e_tlist_scr, e_forn, e_fcn, e_fcr, e_fcc, e_fcb, e_revT, e_rvT, e_lr, e_tr, e_rg1, e_rg2, e_rgo1, e_rg2o, e_en, e_enl, e_ent, e_zp, e_zpl, e_zpt, e_isi2, e_catT, e_catL, e_aug, e_ago, e_agn, e_meth1, e_meo, e_apd, e_dc, e_dcT, e_dctt, e_dctf, e_koi, e_kos, e_dg, e_augix, e_aug2, e_sl, e_sl2l, e_sl2t, e_repT, e_repL, e_yes, e_add, e_sub, e_mul, e_fdiv, e_mod, e_cmp, e_neg, e_ixt, e_ixl, e_at0, e_at1, e_at2, e_at3, e_eqi, e_nei, e_abs, e_int, e_intb, e_lenl, e_lent, e_tupl, e_tupt, e_can4, e_gtn, e_fori, e_fio, e_setdc, e_sdco, e_get2, e_isdk, e_geto, e_gtos, e_gton, e_newd, e_disp1, e_parok, e_parov, e_parvo, e_paroo, e_indc, e_nindc, e_max2, e_min2, e_meth0, e_me0, items_nil, items_cons, keyD_i, e_ch3, e_c3t, e_c3f, e_rgd2, e_rgv, e_rgvo, e_gsub, e_sub2, e_index, e_isl, e_lc2, bne_self_eq_false, beq_self_eq_true, Nat.reduceBEq, Nat.reduceEqDiff, List.length_cons, List.length_nil, Bool.and_true, Bool.true_and, lo1, lo2, lo3, lo4, lo5, decide_true, decide_false, fino2_r, fino_r, outo_r, outo_n, List.set_cons_zero, List.set_cons_succ, fino_n, Bool.not_true, Bool.not_false, List.length_map, show (a.length : Int) - ((i + 1 : Nat) : Int) = ((a.length - (i + 1) : Nat) : Int) by omega, q1, show (1 + (i : Int)) = ((i + 1 : Nat) : Int) by omega, q2, eq_tup_ints, decide_eq_true z]
        rfl
      · simp -implicitDefEqProofs only [e_bdo, e_bdn, e_bd, e_ob, e_obn, e_grt, e_grf, e_set0, e_setS, e_can0, e_can1, e_can2, e_can3, e_canS, e_own0, e_ownS, e_iol0, e_iolS, e_gt0, e_gtS, e_var, e_rdv, e_rdo, e_c, e_drv, e_drs, e_drov, e_droo, e_tvv, e_tvs, e_tvov, e_tvoo, e_tvl0, e_tvl1, e_drl0, e_drl1, e_m2, e_m2F, e_m1, e_mT, e_tbo, e_mFr, e_nil, e_cons, e_mB, e_mBF, e_tup, e_lst, e_call, e_callF, e_callIO, e_ioo, e_and, e_andt, e_andf, e_or, e_ort, e_orf, e_not, e_noto, e_bot, e_bof, e_if, e_tand, e_tor, e_tnot, e_isi, e_seq, e_seqn, e_seqr, e_seqb, e_seqc, e_seqo, e_snil, e_sno, e_sif, e_ift, e_iff, e_set, e_setF, e_ret, e_expr, e_gvar, e_par, e_par2, e_par3o, e_par3, e_gtup, e_gcons, e_gnil, e_for, e_sq, e_sql, e_sqt, e_r1, e_rgo, e_r2, e_rgo2, e_frn, e_frv, e_fro, e_fr1, e_fr2, e_wi1, e_wi2, e_re1, e_re2, e_lc, e_lcT, e_lctt, e_lctf, e_slL, e_slo, e_oNo, e_oS, e_oso, e_cut1, e_rev, e_rvo, e_ch, e_cht, e_chf, e_six, e_sxo, e_ixs, e_lens, e_lsts, e_lstl, e_lstt, e_pow, e_eqb, e_neb, e_ntb, e_isbb, e_isn, e_non, e_gt2, e_tint_non, e_tint_bl, e_tint_int, e_tint_str, e_tint_tup, e_tint_lst, e_tint_scr, e_tbool_non, e_tbool_bl, e_tbool_int, e_tbool_str, e_tbool_tup, e_tbool_lst, e_tbool_scr, e_tstr_non, e_tstr_bl, e_tstr_int, e_tstr_str, e_tstr_tup, e_tstr_lst, e_tstr_scr, e_ttuple_non, e_ttuple_bl, e_ttuple_int, e_ttuple_str, e_ttuple_tup, e_ttuple_lst, e_ttuple_scr, e_tlist_non, e_tlist_bl, e_tlist_int, e_tlist_str, e_tlist_tup, e_tlist_lst, e_tlist_scr, e_forn, e_fcn, e_fcr, e_fcc, e_fcb, e_revT, e_rvT, e_lr, e_tr, e_rg1, e_rg2, e_rgo1, e_rg2o, e_en, e_enl, e_ent, e_zp, e_zpl, e_zpt, e_isi2, e_catT, e_catL, e_aug, e_ago, e_agn, e_meth1, e_meo, e_apd, e_dc, e_dcT, e_dctt, e_dctf, e_koi, e_kos, e_dg, e_augix, e_aug2, e_sl, e_sl2l, e_sl2t, e_repT, e_repL, e_yes, e_add, e_sub, e_mul, e_fdiv, e_mod, e_cmp, e_neg, e_ixt, e_ixl, e_at0, e_at1, e_at2, e_at3, e_eqi, e_nei, e_abs, e_int, e_intb, e_lenl, e_lent, e_tupl, e_tupt, e_can4, e_gtn, e_fori, e_fio, e_setdc, e_sdco, e_get2, e_isdk, e_geto, e_gtos, e_gton, e_newd, e_disp1, e_parok, e_parov, e_parvo, e_paroo, e_indc, e_nindc, e_max2, e_min2, e_meth0, e_me0, items_nil, items_cons, keyD_i, e_ch3, e_c3t, e_c3f, e_rgd2, e_rgv, e_rgvo, e_gsub, e_sub2, e_index, e_isl, e_lc2, bne_self_eq_false, beq_self_eq_true, Nat.reduceBEq, Nat.reduceEqDiff, List.length_cons, List.length_nil, Bool.and_true, Bool.true_and, lo1, lo2, lo3, lo4, lo5, decide_true, decide_false, fino2_r, fino_r, outo_r, outo_n, List.set_cons_zero, List.set_cons_succ, fino_n, Bool.not_true, Bool.not_false, List.length_map, show (a.length : Int) - ((i + 1 : Nat) : Int) = ((a.length - (i + 1) : Nat) : Int) by omega, q1, show (1 + (i : Int)) = ((i + 1 : Nat) : Int) by omega, q2, eq_tup_ints, decide_eq_false z]
        rfl
  unfold m_overlaps
  unfold wd
  simp -implicitDefEqProofs only [e_bdo, e_bdn, e_bd, e_ob, e_obn, e_grt, e_grf, e_set0, e_setS, e_can0, e_can1, e_can2, e_can3, e_canS, e_own0, e_ownS, e_iol0, e_iolS, e_gt0, e_gtS, e_var, e_rdv, e_rdo, e_c, e_drv, e_drs, e_drov, e_droo, e_tvv, e_tvs, e_tvov, e_tvoo, e_tvl0, e_tvl1, e_drl0, e_drl1, e_m2, e_m2F, e_m1, e_mT, e_tbo, e_mFr, e_nil, e_cons, e_mB, e_mBF, e_tup, e_lst, e_call, e_callF, e_callIO, e_ioo, e_and, e_andt, e_andf, e_or, e_ort, e_orf, e_not, e_noto, e_bot, e_bof, e_if, e_tand, e_tor, e_tnot, e_isi, e_seq, e_seqn, e_seqr, e_seqb, e_seqc, e_seqo, e_snil, e_sno, e_sif, e_ift, e_iff, e_set, e_setF, e_ret, e_expr, e_gvar, e_par, e_par2, e_par3o, e_par3, e_gtup, e_gcons, e_gnil, e_for, e_sq, e_sql, e_sqt, e_r1, e_rgo, e_r2, e_rgo2, e_frn, e_frv, e_fro, e_fr1, e_fr2, e_wi1, e_wi2, e_re1, e_re2, e_lc, e_lcT, e_lctt, e_lctf, e_slL, e_slo, e_oNo, e_oS, e_oso, e_cut1, e_rev, e_rvo, e_ch, e_cht, e_chf, e_six, e_sxo, e_ixs, e_lens, e_lsts, e_lstl, e_lstt, e_pow, e_eqb, e_neb, e_ntb, e_isbb, e_isn, e_non, e_gt2, e_tint_non, e_tint_bl, e_tint_int, e_tint_str, e_tint_tup, e_tint_lst, e_tint_scr, e_tbool_non, e_tbool_bl, e_tbool_int, e_tbool_str, e_tbool_tup, e_tbool_lst, e_tbool_scr, e_tstr_non, e_tstr_bl, e_tstr_int, e_tstr_str, e_tstr_tup, e_tstr_lst, e_tstr_scr, e_ttuple_non, e_ttuple_bl, e_ttuple_int, e_ttuple_str, e_ttuple_tup, e_ttuple_lst, e_ttuple_scr, e_tlist_non, e_tlist_bl, e_tlist_int, e_tlist_str, e_tlist_tup, e_tlist_lst, e_tlist_scr, e_forn, e_fcn, e_fcr, e_fcc, e_fcb, e_revT, e_rvT, e_lr, e_tr, e_rg1, e_rg2, e_rgo1, e_rg2o, e_en, e_enl, e_ent, e_zp, e_zpl, e_zpt, e_isi2, e_catT, e_catL, e_aug, e_ago, e_agn, e_meth1, e_meo, e_apd, e_dc, e_dcT, e_dctt, e_dctf, e_koi, e_kos, e_dg, e_augix, e_aug2, e_sl, e_sl2l, e_sl2t, e_repT, e_repL, e_yes, e_add, e_sub, e_mul, e_fdiv, e_mod, e_cmp, e_neg, e_ixt, e_ixl, e_at0, e_at1, e_at2, e_at3, e_eqi, e_nei, e_abs, e_int, e_intb, e_lenl, e_lent, e_tupl, e_tupt, e_can4, e_gtn, e_fori, e_fio, e_setdc, e_sdco, e_get2, e_isdk, e_geto, e_gtos, e_gton, e_newd, e_disp1, e_parok, e_parov, e_parvo, e_paroo, e_indc, e_nindc, e_max2, e_min2, e_meth0, e_me0, items_nil, items_cons, keyD_i, e_ch3, e_c3t, e_c3f, e_rgd2, e_rgv, e_rgvo, e_gsub, e_sub2, e_index, e_isl, e_lc2, bne_self_eq_false, beq_self_eq_true, Nat.reduceBEq, Nat.reduceEqDiff, List.length_cons, List.length_nil, Bool.and_true, Bool.true_and, lo1, lo2, lo3, lo4, lo5, decide_true, decide_false, fino2_r, fino_r, outo_r, outo_n, List.set_cons_zero, List.set_cons_succ, fino_n, Bool.not_true, Bool.not_false, List.length_map, mn, show rgOk2 1 (((min a.length b.length : Nat) : Int) + 1) = true from decide_eq_true (by omega), show (((min a.length b.length : Nat) : Int) + 1 - 1).toNat = min a.length b.length by omega, rng_len, show lineOk (min a.length b.length) = true from decide_eq_true (by omega), e1]
theorem kpow_lt {K : Nat} (hk : K23 K) {n : Nat} (h : n ≤ 20) : (K : Int) ^ n < 2 ^ 41 ∧ 0 < (K : Int) ^ n := by
  have hb : ((K : Int)).natAbs < 2 ^ 2 := by rcases hk with rfl | rfl <;> decide
  have q := bup (bpw hb n) (show 2 * n + 1 ≤ 41 by omega)
  have p : 0 < (K : Int) ^ n := Int.pow_pos (by rcases hk with rfl | rfl <;> decide)
  omega
theorem share_loop {K : Nat} (hk : K23 K) {o1 : Option SV} : ∀ (w : List Int) (n : Nat) (x3 : Option D), (∀ x ∈ w, 0 ≤ x ∧ x < (K : Int)) → n + w.length ≤ 20 → ∃ y3, forL (gVar 3) (sSet (gVar 2) (mCall den_times (lCons (mVar 2) (lCons (m2 ixD (mVar 0) (mVar 3)) lNil)))) (w.map D.int) [some (.v (fairD K)), o1, some (.v (sh (fr' 1 ((K : Int) ^ n)))), ov x3] = some (.nx [some (.v (fairD K)), o1, some (.v (sh (fr' 1 ((K : Int) ^ (n + w.length))))), ov y3])
  | [], n, x3, _, _ => ⟨x3, rfl⟩
  | x :: w, n, x3, hx, hn => by
    rw [List.length_cons] at hn
    obtain ⟨y3, e⟩ := share_loop hk (o1 := o1) w (n + 1) (some (.int x)) (fun y hy => hx y (List.mem_cons_of_mem _ hy)) (by omega)
    refine ⟨y3, ?_⟩
    have kp := kpow_lt hk (show n ≤ 20 by omega)
    have t := (times_eq (fr_sz (a := 1) (D := (K : Int) ^ n) (J := 41) (by omega) (by omega) kp.2 kp.1) (fair_sz hk) (by omega)).1
    rw [fr_mul, Int.one_mul, ← Int.pow_succ] at t
    rw [List.map_cons, for_cons (ρ1 := [some (.v (fairD K)), o1, some (.v (sh (fr' 1 ((K : Int) ^ n)))), some (.v (.int x))]) (ρ2 := [some (.v (fairD K)), o1, some (.v (sh (fr' 1 ((K : Int) ^ (n + 1))))), some (.v (.int x))]) (by simp -implicitDefEqProofs only [e_bdo, e_bdn, e_bd, e_ob, e_obn, e_grt, e_grf, e_set0, e_setS, e_can0, e_can1, e_can2, e_can3, e_canS, e_own0, e_ownS, e_iol0, e_iolS, e_gt0, e_gtS, e_var, e_rdv, e_rdo, e_c, e_drv, e_drs, e_drov, e_droo, e_tvv, e_tvs, e_tvov, e_tvoo, e_tvl0, e_tvl1, e_drl0, e_drl1, e_m2, e_m2F, e_m1, e_mT, e_tbo, e_mFr, e_nil, e_cons, e_mB, e_mBF, e_tup, e_lst, e_call, e_callF, e_callIO, e_ioo, e_and, e_andt, e_andf, e_or, e_ort, e_orf, e_not, e_noto, e_bot, e_bof, e_if, e_tand, e_tor, e_tnot, e_isi, e_seq, e_seqn, e_seqr, e_seqb, e_seqc, e_seqo, e_snil, e_sno, e_sif, e_ift, e_iff, e_set, e_setF, e_ret, e_expr, e_gvar, e_par, e_par2, e_par3o, e_par3, e_gtup, e_gcons, e_gnil, e_for, e_sq, e_sql, e_sqt, e_r1, e_rgo, e_r2, e_rgo2, e_frn, e_frv, e_fro, e_fr1, e_fr2, e_wi1, e_wi2, e_re1, e_re2, e_lc, e_lcT, e_lctt, e_lctf, e_slL, e_slo, e_oNo, e_oS, e_oso, e_cut1, e_rev, e_rvo, e_ch, e_cht, e_chf, e_six, e_sxo, e_ixs, e_lens, e_lsts, e_lstl, e_lstt, e_pow, e_eqb, e_neb, e_ntb, e_isbb, e_isn, e_non, e_gt2, e_tint_non, e_tint_bl, e_tint_int, e_tint_str, e_tint_tup, e_tint_lst, e_tint_scr, e_tbool_non, e_tbool_bl, e_tbool_int, e_tbool_str, e_tbool_tup, e_tbool_lst, e_tbool_scr, e_tstr_non, e_tstr_bl, e_tstr_int, e_tstr_str, e_tstr_tup, e_tstr_lst, e_tstr_scr, e_ttuple_non, e_ttuple_bl, e_ttuple_int, e_ttuple_str, e_ttuple_tup, e_ttuple_lst, e_ttuple_scr, e_tlist_non, e_tlist_bl, e_tlist_int, e_tlist_str, e_tlist_tup, e_tlist_lst, e_tlist_scr, e_forn, e_fcn, e_fcr, e_fcc, e_fcb, e_revT, e_rvT, e_lr, e_tr, e_rg1, e_rg2, e_rgo1, e_rg2o, e_en, e_enl, e_ent, e_zp, e_zpl, e_zpt, e_isi2, e_catT, e_catL, e_aug, e_ago, e_agn, e_meth1, e_meo, e_apd, e_dc, e_dcT, e_dctt, e_dctf, e_koi, e_kos, e_dg, e_augix, e_aug2, e_sl, e_sl2l, e_sl2t, e_repT, e_repL, e_yes, e_add, e_sub, e_mul, e_fdiv, e_mod, e_cmp, e_neg, e_ixt, e_ixl, e_at0, e_at1, e_at2, e_at3, e_eqi, e_nei, e_abs, e_int, e_intb, e_lenl, e_lent, e_tupl, e_tupt, e_can4, e_gtn, e_fori, e_fio, e_setdc, e_sdco, e_get2, e_isdk, e_geto, e_gtos, e_gton, e_newd, e_disp1, e_parok, e_parov, e_parvo, e_paroo, e_indc, e_nindc, e_max2, e_min2, e_meth0, e_me0, items_nil, items_cons, keyD_i, e_ch3, e_c3t, e_c3f, e_rgd2, e_rgv, e_rgvo, e_gsub, e_sub2, e_index, e_isl, e_lc2, bne_self_eq_false, beq_self_eq_true, Nat.reduceBEq, Nat.reduceEqDiff, List.length_cons, List.length_nil, Bool.and_true, Bool.true_and, lo1, lo2, lo3, lo4, lo5, decide_true, decide_false, fino2_r, fino_r, outo_r, outo_n, List.set_cons_zero, List.set_cons_succ, fino_n, Bool.not_true, Bool.not_false]) ?_, List.length_cons, show n + (w.length + 1) = n + 1 + w.length by omega]
    · exact e
    · unfold fairD
      simp -implicitDefEqProofs only [e_bdo, e_bdn, e_bd, e_ob, e_obn, e_grt, e_grf, e_set0, e_setS, e_can0, e_can1, e_can2, e_can3, e_canS, e_own0, e_ownS, e_iol0, e_iolS, e_gt0, e_gtS, e_var, e_rdv, e_rdo, e_c, e_drv, e_drs, e_drov, e_droo, e_tvv, e_tvs, e_tvov, e_tvoo, e_tvl0, e_tvl1, e_drl0, e_drl1, e_m2, e_m2F, e_m1, e_mT, e_tbo, e_mFr, e_nil, e_cons, e_mB, e_mBF, e_tup, e_lst, e_call, e_callF, e_callIO, e_ioo, e_and, e_andt, e_andf, e_or, e_ort, e_orf, e_not, e_noto, e_bot, e_bof, e_if, e_tand, e_tor, e_tnot, e_isi, e_seq, e_seqn, e_seqr, e_seqb, e_seqc, e_seqo, e_snil, e_sno, e_sif, e_ift, e_iff, e_set, e_setF, e_ret, e_expr, e_gvar, e_par, e_par2, e_par3o, e_par3, e_gtup, e_gcons, e_gnil, e_for, e_sq, e_sql, e_sqt, e_r1, e_rgo, e_r2, e_rgo2, e_frn, e_frv, e_fro, e_fr1, e_fr2, e_wi1, e_wi2, e_re1, e_re2, e_lc, e_lcT, e_lctt, e_lctf, e_slL, e_slo, e_oNo, e_oS, e_oso, e_cut1, e_rev, e_rvo, e_ch, e_cht, e_chf, e_six, e_sxo, e_ixs, e_lens, e_lsts, e_lstl, e_lstt, e_pow, e_eqb, e_neb, e_ntb, e_isbb, e_isn, e_non, e_gt2, e_tint_non, e_tint_bl, e_tint_int, e_tint_str, e_tint_tup, e_tint_lst, e_tint_scr, e_tbool_non, e_tbool_bl, e_tbool_int, e_tbool_str, e_tbool_tup, e_tbool_lst, e_tbool_scr, e_tstr_non, e_tstr_bl, e_tstr_int, e_tstr_str, e_tstr_tup, e_tstr_lst, e_tstr_scr, e_ttuple_non, e_ttuple_bl, e_ttuple_int, e_ttuple_str, e_ttuple_tup, e_ttuple_lst, e_ttuple_scr, e_tlist_non, e_tlist_bl, e_tlist_int, e_tlist_str, e_tlist_tup, e_tlist_lst, e_tlist_scr, e_forn, e_fcn, e_fcr, e_fcc, e_fcb, e_revT, e_rvT, e_lr, e_tr, e_rg1, e_rg2, e_rgo1, e_rg2o, e_en, e_enl, e_ent, e_zp, e_zpl, e_zpt, e_isi2, e_catT, e_catL, e_aug, e_ago, e_agn, e_meth1, e_meo, e_apd, e_dc, e_dcT, e_dctt, e_dctf, e_koi, e_kos, e_dg, e_augix, e_aug2, e_sl, e_sl2l, e_sl2t, e_repT, e_repL, e_yes, e_add, e_sub, e_mul, e_fdiv, e_mod, e_cmp, e_neg, e_ixt, e_ixl, e_at0, e_at1, e_at2, e_at3, e_eqi, e_nei, e_abs, e_int, e_intb, e_lenl, e_lent, e_tupl, e_tupt, e_can4, e_gtn, e_fori, e_fio, e_setdc, e_sdco, e_get2, e_isdk, e_geto, e_gtos, e_gton, e_newd, e_disp1, e_parok, e_parov, e_parvo, e_paroo, e_indc, e_nindc, e_max2, e_min2, e_meth0, e_me0, items_nil, items_cons, keyD_i, e_ch3, e_c3t, e_c3f, e_rgd2, e_rgv, e_rgvo, e_gsub, e_sub2, e_index, e_isl, e_lc2, bne_self_eq_false, beq_self_eq_true, Nat.reduceBEq, Nat.reduceEqDiff, List.length_cons, List.length_nil, Bool.and_true, Bool.true_and, lo1, lo2, lo3, lo4, lo5, decide_true, decide_false, fino2_r, fino_r, outo_r, outo_n, List.set_cons_zero, List.set_cons_succ, fino_n, Bool.not_true, Bool.not_false, fair_at (hx x List.mem_cons_self), t]
theorem word_share_eq {K : Nat} (hk : K23 K) {w : List Int} (h : Wd K w) : den_word_share [fairD K, wd w] = some (sh (fr' 1 ((K : Int) ^ w.length))) := by
  rw [den_word_share, den_of]
  show fino (m_word_share [some (.v (fairD K)), some (.v (wd w)), none, none]) = _
  obtain ⟨y3, e⟩ := share_loop hk (o1 := some (.v (wd w))) w 0 none h.1 (by have := h.2.2; omega)
  rw [Nat.zero_add, Int.pow_zero, fr_one (by decide)] at e
  have one : D.tup [D.int 1, D.int 1] = sh 1 := rfl
  have lw := look_word hk h
  rw [show (ov (none : Option D)) = none from rfl] at e
  unfold m_word_share
  unfold wd at *
  simp -implicitDefEqProofs only [e_bdo, e_bdn, e_bd, e_ob, e_obn, e_grt, e_grf, e_set0, e_setS, e_can0, e_can1, e_can2, e_can3, e_canS, e_own0, e_ownS, e_iol0, e_iolS, e_gt0, e_gtS, e_var, e_rdv, e_rdo, e_c, e_drv, e_drs, e_drov, e_droo, e_tvv, e_tvs, e_tvov, e_tvoo, e_tvl0, e_tvl1, e_drl0, e_drl1, e_m2, e_m2F, e_m1, e_mT, e_tbo, e_mFr, e_nil, e_cons, e_mB, e_mBF, e_tup, e_lst, e_call, e_callF, e_callIO, e_ioo, e_and, e_andt, e_andf, e_or, e_ort, e_orf, e_not, e_noto, e_bot, e_bof, e_if, e_tand, e_tor, e_tnot, e_isi, e_seq, e_seqn, e_seqr, e_seqb, e_seqc, e_seqo, e_snil, e_sno, e_sif, e_ift, e_iff, e_set, e_setF, e_ret, e_expr, e_gvar, e_par, e_par2, e_par3o, e_par3, e_gtup, e_gcons, e_gnil, e_for, e_sq, e_sql, e_sqt, e_r1, e_rgo, e_r2, e_rgo2, e_frn, e_frv, e_fro, e_fr1, e_fr2, e_wi1, e_wi2, e_re1, e_re2, e_lc, e_lcT, e_lctt, e_lctf, e_slL, e_slo, e_oNo, e_oS, e_oso, e_cut1, e_rev, e_rvo, e_ch, e_cht, e_chf, e_six, e_sxo, e_ixs, e_lens, e_lsts, e_lstl, e_lstt, e_pow, e_eqb, e_neb, e_ntb, e_isbb, e_isn, e_non, e_gt2, e_tint_non, e_tint_bl, e_tint_int, e_tint_str, e_tint_tup, e_tint_lst, e_tint_scr, e_tbool_non, e_tbool_bl, e_tbool_int, e_tbool_str, e_tbool_tup, e_tbool_lst, e_tbool_scr, e_tstr_non, e_tstr_bl, e_tstr_int, e_tstr_str, e_tstr_tup, e_tstr_lst, e_tstr_scr, e_ttuple_non, e_ttuple_bl, e_ttuple_int, e_ttuple_str, e_ttuple_tup, e_ttuple_lst, e_ttuple_scr, e_tlist_non, e_tlist_bl, e_tlist_int, e_tlist_str, e_tlist_tup, e_tlist_lst, e_tlist_scr, e_forn, e_fcn, e_fcr, e_fcc, e_fcb, e_revT, e_rvT, e_lr, e_tr, e_rg1, e_rg2, e_rgo1, e_rg2o, e_en, e_enl, e_ent, e_zp, e_zpl, e_zpt, e_isi2, e_catT, e_catL, e_aug, e_ago, e_agn, e_meth1, e_meo, e_apd, e_dc, e_dcT, e_dctt, e_dctf, e_koi, e_kos, e_dg, e_augix, e_aug2, e_sl, e_sl2l, e_sl2t, e_repT, e_repL, e_yes, e_add, e_sub, e_mul, e_fdiv, e_mod, e_cmp, e_neg, e_ixt, e_ixl, e_at0, e_at1, e_at2, e_at3, e_eqi, e_nei, e_abs, e_int, e_intb, e_lenl, e_lent, e_tupl, e_tupt, e_can4, e_gtn, e_fori, e_fio, e_setdc, e_sdco, e_get2, e_isdk, e_geto, e_gtos, e_gton, e_newd, e_disp1, e_parok, e_parov, e_parvo, e_paroo, e_indc, e_nindc, e_max2, e_min2, e_meth0, e_me0, items_nil, items_cons, keyD_i, e_ch3, e_c3t, e_c3f, e_rgd2, e_rgv, e_rgvo, e_gsub, e_sub2, e_index, e_isl, e_lc2, bne_self_eq_false, beq_self_eq_true, Nat.reduceBEq, Nat.reduceEqDiff, List.length_cons, List.length_nil, Bool.and_true, Bool.true_and, lo1, lo2, lo3, lo4, lo5, decide_true, decide_false, fino2_r, fino_r, outo_r, outo_n, List.set_cons_zero, List.set_cons_succ, fino_n, Bool.not_true, Bool.not_false, lw, one, e_for, e]
def ld (K : Nat) (a b : List Int) : Int := ((ovl a b).map fun m => (K : Int) ^ m).sum
theorem over_one {D : Int} : (1 : Rat) / fr' 1 D = (D : Rat) := by
  unfold fr'
  rw [Rat.div_def, Rat.inv_divInt, Rat.one_mul]
  exact Rat.num_divInt_den (D : Rat)
theorem lead_eq {K : Nat} (hk : K23 K) {a b : List Int} (ha : Wd K a) (hb : Wd K b) : den_lead [fairD K, wd a, wd b] = some (sh ((ld K a b : Int) : Rat)) := by
  rw [den_lead, den_of]
  show fino (m_lead [some (.v (fairD K)), some (.v (wd a)), some (.v (wd b)), none]) = _
  have la := look_word hk ha
  have lb := look_word hk hb
  have oe := overlaps_eq ha.2.2 hb.2.2
  have one : D.tup [D.int 1, D.int 1] = sh 1 := rfl
  have hb2 := hb.2.2
  have ol := ovl_len a b
  have e1 : lcL (gVar 3) tYes' (mCall den_over (lCons (mTup (lCons (mC (.int 1)) (lCons (mC (.int 1)) lNil))) (lCons (mCall den_word_share (lCons (mVar 0) (lCons (mSl (mVar 2) oNo (oSome (mVar 3))) lNil))) lNil))) [3] ((ovl a b).map fun (m : Nat) => D.int (m : Int)) [some (.v (fairD K)), some (.v (.tup (a.map D.int))), some (.v (.tup (b.map D.int))), none] = some (((ovl a b).map fun m => fr' ((K : Int) ^ m) 1).map sh, [some (.v (fairD K)), some (.v (.tup (a.map D.int))), some (.v (.tup (b.map D.int))), none]) := by
    rw [List.map_map]
    exact lc_mapE (fun (m : Nat) => D.int (m : Int)) _ fun m hm => by
      obtain ⟨m1, m2, m3⟩ := ovl_mem hm
      have q := cut_to (xs := b.map D.int) (k := m) (by rw [List.length_map]; omega)
      rw [← List.map_take] at q
      have tl : (b.take m).length = m := by rw [List.length_take]; omega
      have wt : Wd K (b.take m) := ⟨fun x hx => hb.1 x (List.mem_of_mem_take hx), by omega, by omega⟩
      have ws := word_share_eq hk wt
      rw [tl] at ws
      unfold wd at ws
      have kp := kpow_lt hk (show m ≤ 20 by omega)
      have s2 : Sz 41 (fr' 1 ((K : Int) ^ m)) := fr_sz (by omega) (by omega) kp.2 kp.1
      have nz : (fr' 1 ((K : Int) ^ m)).num ≠ 0 := fun e => by
        have z : fr' 1 ((K : Int) ^ m) = 0 := Rat.num_eq_zero.mp e
        rw [← fr_zero (D := (K : Int) ^ m)] at z
        have := (Rat.divInt_eq_divInt_iff (by omega) (by omega)).mp z
        rw [Int.zero_mul, Int.one_mul] at this
        omega
      have ov' := (over_eq (p := 1) (j := 1) ⟨by decide, by decide⟩ s2 nz (by omega)).1
      rw [over_one, int_one] at ov'
      simp -implicitDefEqProofs only [e_bdo, e_bdn, e_bd, e_ob, e_obn, e_grt, e_grf, e_set0, e_setS, e_can0, e_can1, e_can2, e_can3, e_canS, e_own0, e_ownS, e_iol0, e_iolS, e_gt0, e_gtS, e_var, e_rdv, e_rdo, e_c, e_drv, e_drs, e_drov, e_droo, e_tvv, e_tvs, e_tvov, e_tvoo, e_tvl0, e_tvl1, e_drl0, e_drl1, e_m2, e_m2F, e_m1, e_mT, e_tbo, e_mFr, e_nil, e_cons, e_mB, e_mBF, e_tup, e_lst, e_call, e_callF, e_callIO, e_ioo, e_and, e_andt, e_andf, e_or, e_ort, e_orf, e_not, e_noto, e_bot, e_bof, e_if, e_tand, e_tor, e_tnot, e_isi, e_seq, e_seqn, e_seqr, e_seqb, e_seqc, e_seqo, e_snil, e_sno, e_sif, e_ift, e_iff, e_set, e_setF, e_ret, e_expr, e_gvar, e_par, e_par2, e_par3o, e_par3, e_gtup, e_gcons, e_gnil, e_for, e_sq, e_sql, e_sqt, e_r1, e_rgo, e_r2, e_rgo2, e_frn, e_frv, e_fro, e_fr1, e_fr2, e_wi1, e_wi2, e_re1, e_re2, e_lc, e_lcT, e_lctt, e_lctf, e_slL, e_slo, e_oNo, e_oS, e_oso, e_cut1, e_rev, e_rvo, e_ch, e_cht, e_chf, e_six, e_sxo, e_ixs, e_lens, e_lsts, e_lstl, e_lstt, e_pow, e_eqb, e_neb, e_ntb, e_isbb, e_isn, e_non, e_gt2, e_tint_non, e_tint_bl, e_tint_int, e_tint_str, e_tint_tup, e_tint_lst, e_tint_scr, e_tbool_non, e_tbool_bl, e_tbool_int, e_tbool_str, e_tbool_tup, e_tbool_lst, e_tbool_scr, e_tstr_non, e_tstr_bl, e_tstr_int, e_tstr_str, e_tstr_tup, e_tstr_lst, e_tstr_scr, e_ttuple_non, e_ttuple_bl, e_ttuple_int, e_ttuple_str, e_ttuple_tup, e_ttuple_lst, e_ttuple_scr, e_tlist_non, e_tlist_bl, e_tlist_int, e_tlist_str, e_tlist_tup, e_tlist_lst, e_tlist_scr, e_forn, e_fcn, e_fcr, e_fcc, e_fcb, e_revT, e_rvT, e_lr, e_tr, e_rg1, e_rg2, e_rgo1, e_rg2o, e_en, e_enl, e_ent, e_zp, e_zpl, e_zpt, e_isi2, e_catT, e_catL, e_aug, e_ago, e_agn, e_meth1, e_meo, e_apd, e_dc, e_dcT, e_dctt, e_dctf, e_koi, e_kos, e_dg, e_augix, e_aug2, e_sl, e_sl2l, e_sl2t, e_repT, e_repL, e_yes, e_add, e_sub, e_mul, e_fdiv, e_mod, e_cmp, e_neg, e_ixt, e_ixl, e_at0, e_at1, e_at2, e_at3, e_eqi, e_nei, e_abs, e_int, e_intb, e_lenl, e_lent, e_tupl, e_tupt, e_can4, e_gtn, e_fori, e_fio, e_setdc, e_sdco, e_get2, e_isdk, e_geto, e_gtos, e_gton, e_newd, e_disp1, e_parok, e_parov, e_parvo, e_paroo, e_indc, e_nindc, e_max2, e_min2, e_meth0, e_me0, items_nil, items_cons, keyD_i, e_ch3, e_c3t, e_c3f, e_rgd2, e_rgv, e_rgvo, e_gsub, e_sub2, e_index, e_isl, e_lc2, bne_self_eq_false, beq_self_eq_true, Nat.reduceBEq, Nat.reduceEqDiff, List.length_cons, List.length_nil, Bool.and_true, Bool.true_and, lo1, lo2, lo3, lo4, lo5, decide_true, decide_false, fino2_r, fino_r, outo_r, outo_n, List.set_cons_zero, List.set_cons_succ, fino_n, Bool.not_true, Bool.not_false, q, ws, one, ov']
      rfl
  have t := total_eq (x := .lst (((ovl a b).map fun m => fr' ((K : Int) ^ m) 1).map sh)) (l := (ovl a b).map fun m => fr' ((K : Int) ^ m) 1) (j := 42) (.inl rfl) (fun p hp => by
    obtain ⟨m, hm, rfl⟩ := List.mem_map.mp hp
    obtain ⟨m1, m2, m3⟩ := ovl_mem hm
    have kp := kpow_lt hk (show m ≤ 20 by omega)
    rw [← int_one]
    exact sz_int (by omega) (by decide)) (by rw [List.length_map]; omega)
  rw [tot_fr0 (by decide), ← int_one] at t
  unfold m_lead
  unfold wd at *
  simp -implicitDefEqProofs only [e_bdo, e_bdn, e_bd, e_ob, e_obn, e_grt, e_grf, e_set0, e_setS, e_can0, e_can1, e_can2, e_can3, e_canS, e_own0, e_ownS, e_iol0, e_iolS, e_gt0, e_gtS, e_var, e_rdv, e_rdo, e_c, e_drv, e_drs, e_drov, e_droo, e_tvv, e_tvs, e_tvov, e_tvoo, e_tvl0, e_tvl1, e_drl0, e_drl1, e_m2, e_m2F, e_m1, e_mT, e_tbo, e_mFr, e_nil, e_cons, e_mB, e_mBF, e_tup, e_lst, e_call, e_callF, e_callIO, e_ioo, e_and, e_andt, e_andf, e_or, e_ort, e_orf, e_not, e_noto, e_bot, e_bof, e_if, e_tand, e_tor, e_tnot, e_isi, e_seq, e_seqn, e_seqr, e_seqb, e_seqc, e_seqo, e_snil, e_sno, e_sif, e_ift, e_iff, e_set, e_setF, e_ret, e_expr, e_gvar, e_par, e_par2, e_par3o, e_par3, e_gtup, e_gcons, e_gnil, e_for, e_sq, e_sql, e_sqt, e_r1, e_rgo, e_r2, e_rgo2, e_frn, e_frv, e_fro, e_fr1, e_fr2, e_wi1, e_wi2, e_re1, e_re2, e_lc, e_lcT, e_lctt, e_lctf, e_slL, e_slo, e_oNo, e_oS, e_oso, e_cut1, e_rev, e_rvo, e_ch, e_cht, e_chf, e_six, e_sxo, e_ixs, e_lens, e_lsts, e_lstl, e_lstt, e_pow, e_eqb, e_neb, e_ntb, e_isbb, e_isn, e_non, e_gt2, e_tint_non, e_tint_bl, e_tint_int, e_tint_str, e_tint_tup, e_tint_lst, e_tint_scr, e_tbool_non, e_tbool_bl, e_tbool_int, e_tbool_str, e_tbool_tup, e_tbool_lst, e_tbool_scr, e_tstr_non, e_tstr_bl, e_tstr_int, e_tstr_str, e_tstr_tup, e_tstr_lst, e_tstr_scr, e_ttuple_non, e_ttuple_bl, e_ttuple_int, e_ttuple_str, e_ttuple_tup, e_ttuple_lst, e_ttuple_scr, e_tlist_non, e_tlist_bl, e_tlist_int, e_tlist_str, e_tlist_tup, e_tlist_lst, e_tlist_scr, e_forn, e_fcn, e_fcr, e_fcc, e_fcb, e_revT, e_rvT, e_lr, e_tr, e_rg1, e_rg2, e_rgo1, e_rg2o, e_en, e_enl, e_ent, e_zp, e_zpl, e_zpt, e_isi2, e_catT, e_catL, e_aug, e_ago, e_agn, e_meth1, e_meo, e_apd, e_dc, e_dcT, e_dctt, e_dctf, e_koi, e_kos, e_dg, e_augix, e_aug2, e_sl, e_sl2l, e_sl2t, e_repT, e_repL, e_yes, e_add, e_sub, e_mul, e_fdiv, e_mod, e_cmp, e_neg, e_ixt, e_ixl, e_at0, e_at1, e_at2, e_at3, e_eqi, e_nei, e_abs, e_int, e_intb, e_lenl, e_lent, e_tupl, e_tupt, e_can4, e_gtn, e_fori, e_fio, e_setdc, e_sdco, e_get2, e_isdk, e_geto, e_gtos, e_gton, e_newd, e_disp1, e_parok, e_parov, e_parvo, e_paroo, e_indc, e_nindc, e_max2, e_min2, e_meth0, e_me0, items_nil, items_cons, keyD_i, e_ch3, e_c3t, e_c3f, e_rgd2, e_rgv, e_rgvo, e_gsub, e_sub2, e_index, e_isl, e_lc2, bne_self_eq_false, beq_self_eq_true, Nat.reduceBEq, Nat.reduceEqDiff, List.length_cons, List.length_nil, Bool.and_true, Bool.true_and, lo1, lo2, lo3, lo4, lo5, decide_true, decide_false, fino2_r, fino_r, outo_r, outo_n, List.set_cons_zero, List.set_cons_succ, fino_n, Bool.not_true, Bool.not_false, la, lb, oe, List.length_map, show lineOk (ovl a b).length = true from decide_eq_true (by omega), e1, t]
  rfl
/-! odds -/
theorem sum_bd {f : Nat → Int} {B : Int} : ∀ (l : List Nat), (∀ m ∈ l, 0 ≤ f m ∧ f m ≤ B) → 0 ≤ (l.map f).sum ∧ (l.map f).sum ≤ l.length * B
  | [], _ => by simp
  | m :: l, h => by
    have a := sum_bd l fun k hk => h k (List.mem_cons_of_mem _ hk)
    have b := h m List.mem_cons_self
    rw [List.map_cons, List.sum_cons, List.length_cons]
    have e : ((l.length + 1 : Nat) : Int) * B = (l.length : Int) * B + B := by rw [Int.natCast_add, Int.add_mul]; simp
    omega
theorem ld_bd {K : Nat} (hk : K23 K) {a b : List Int} (hb : b.length ≤ 20) : 0 ≤ ld K a b ∧ ld K a b < 2 ^ 47 := by
  have ol := ovl_len a b
  have s := sum_bd (f := fun m => (K : Int) ^ m) (B := 2 ^ 41) (ovl a b) fun m hm => by
    obtain ⟨m1, m2, m3⟩ := ovl_mem hm
    have := kpow_lt hk (show m ≤ 20 by omega)
    omega
  have : ((ovl a b).length : Int) * 2 ^ 41 ≤ 20 * 2 ^ 41 := Int.mul_le_mul_of_nonneg_right (by omega) (by decide)
  unfold ld
  omega
/-- what the first is worth against the other -/
def on (K : Nat) (a b : List Int) : Int := ld K b b - ld K b a
def val (K : Nat) (w o : List Int) : Rat := fr' (on K o w) (on K o w + on K w o)
def allW (K : Nat) : Nat → List (List Int)
  | 0 => [[]]
  | n + 1 => (allW K n).flatMap fun r => (List.range K).map fun (i : Nat) => r ++ [(i : Int)]
def KN (K n : Nat) : Prop := (K = 2 ∧ 2 ≤ n ∧ n ≤ 5) ∨ (K = 3 ∧ 2 ≤ n ∧ n ≤ 3)
theorem KN.k {K n : Nat} (h : KN K n) : K23 K := h.elim (fun q => .inl q.1) fun q => .inr q.1
theorem KN.n5 {K n : Nat} (h : KN K n) : 2 ≤ n ∧ n ≤ 5 := by rcases h with q | q <;> omega
theorem KN.all {P : Nat → Nat → Prop} (a : P 2 2) (b : P 2 3) (c : P 2 4) (d : P 2 5) (e : P 3 2) (f : P 3 3) {K n : Nat} (h : KN K n) : P K n := by
  rcases h with ⟨rfl, h1, h2⟩ | ⟨rfl, h1, h2⟩
  · have : n = 2 ∨ n = 3 ∨ n = 4 ∨ n = 5 := by omega
    rcases this with rfl | rfl | rfl | rfl <;> assumption
  · have : n = 2 ∨ n = 3 := by omega
    rcases this with rfl | rfl <;> assumption
/-- a word of n letters -/
def Wn (K n : Nat) (w : List Int) : Prop := (∀ x ∈ w, 0 ≤ x ∧ x < (K : Int)) ∧ w.length = n
theorem Wn.wd {K n : Nat} {w : List Int} (h : Wn K n w) (hn : KN K n) : Wd K w := ⟨h.1, by have := hn.n5; have := h.2; omega, by have := hn.n5; have := h.2; omega⟩
theorem mem_all {K : Nat} : ∀ {n : Nat} {w : List Int}, Wn K n w → w ∈ allW K n
  | 0, w, h => by
    have : w = [] := List.eq_nil_of_length_eq_zero h.2
    rw [this]
    simp [allW]
  | n + 1, w, h => by
    have hne : w ≠ [] := by intro e; have := h.2; rw [e] at this; simp at this
    have e := List.dropLast_concat_getLast hne
    have hd : Wn K n w.dropLast := ⟨fun x hx => h.1 x (List.dropLast_subset _ hx), by rw [List.length_dropLast, h.2]; rfl⟩
    have ih := mem_all hd
    have hx := h.1 _ (List.getLast_mem hne)
    unfold allW
    rw [List.mem_flatMap]
    refine ⟨w.dropLast, ih, List.mem_map.mpr ⟨(w.getLast hne).toNat, List.mem_range.mpr (by omega), ?_⟩⟩
    rw [show (((w.getLast hne).toNat : Nat) : Int) = w.getLast hne by omega]
    exact e
theorem all_mem {K : Nat} : ∀ {n : Nat} {w : List Int}, w ∈ allW K n → Wn K n w
  | 0, w, h => by
    simp [allW] at h
    subst h
    exact ⟨fun x hx => (nomatch hx), rfl⟩
  | n + 1, w, h => by
    unfold allW at h
    rw [List.mem_flatMap] at h
    obtain ⟨r, hr, hw⟩ := h
    obtain ⟨i, hi, rfl⟩ := List.mem_map.mp hw
    have := List.mem_range.mp hi
    have ih := all_mem hr
    refine ⟨fun x hx => ?_, by rw [List.length_append, ih.2]; rfl⟩
    rcases List.mem_append.mp hx with hx | hx
    · exact ih.1 x hx
    · rw [List.mem_singleton.mp hx]; omega
def chkP (K n : Nat) : Bool := (allW K n).all fun a => (allW K n).all fun b => decide (a = b) || decide (0 < on K a b)
theorem chk_pos {K n : Nat} (h : KN K n) : chkP K n = true := h.all (P := fun K n => chkP K n = true) (by decide +kernel) (by decide +kernel) (by decide +kernel) (by decide +kernel) (by decide +kernel) (by decide +kernel)
theorem on_pos {K n : Nat} (h : KN K n) {a b : List Int} (ha : Wn K n a) (hb : Wn K n b) (ne : a ≠ b) : 0 < on K a b := by
  have q := List.all_eq_true.mp (List.all_eq_true.mp (chk_pos h) a (mem_all ha)) b (mem_all hb)
  rw [decide_eq_false ne, Bool.false_or] at q
  exact of_decide_eq_true q
theorem on_bd {K n : Nat} (h : KN K n) {a b : List Int} (ha : Wn K n a) (hb : Wn K n b) : (on K a b).natAbs < 2 ^ 48 := by
  have n5 := h.n5
  have x := ld_bd h.k (a := b) (b := b) (by have := hb.2; omega)
  have y := ld_bd h.k (a := b) (b := a) (by have := ha.2; omega)
  unfold on
  omega
theorem has_same {a b : List Int} (hl : a.length = b.length) (ne : a ≠ b) : hasP a b = false := by
  unfold hasP
  rw [show a.length + 1 - b.length = 1 by omega]
  have : List.range 1 = [0] := rfl
  rw [this, List.any_cons, List.any_nil, List.drop_zero, ← hl, List.take_length, decide_eq_false ne]
  rfl
theorem look_words {K n : Nat} (h : KN K n) {a b : List Int} (ha : Wn K n a) (hb : Wn K n b) (ne : a ≠ b) : den_look_at_words [fairD K, .tup [wd a, wd b]] = some .non := by
  rw [den_look_at_words, den_of]
  show fino (m_look_at_words [some (.v (fairD K)), some (.v (.tup [wd a, wd b])), none, none, none, none, none]) = _
  have la := look_word h.k (ha.wd h)
  have lb := look_word h.k (hb.wd h)
  have n5 := h.n5
  have l1 := ha.2
  have l2 := hb.2
  have p1 := has_part_eq (l := a) (p := b) (by omega) (by omega)
  have p2 := has_part_eq (l := b) (p := a) (by omega) (by omega)
  rw [has_same (by omega) ne] at p1
  rw [has_same (by omega) (Ne.symm ne)] at p2
  have p1 : den_has_part [wd a, wd b] = some (.bl false) := p1
  have p2 : den_has_part [wd b, wd a] = some (.bl false) := p2
  have en : enumD 0 [wd a, wd b] = [.tup [.int 0, wd a], .tup [.int 1, wd b]] := rfl
  have c0 : lcL (gTup' 2 (gCons' (gVar 5) (gCons' (gVar 6) gNil'))) (mT (m2 neD (mVar 5) (mVar 3))) (mCall den_has_part (lCons (mVar 4) (lCons (mVar 6) lNil))) [5, 6] [.tup [.int 0, wd a], .tup [.int 1, wd b]] [some (.v (fairD K)), some (.v (.tup [wd a, wd b])), some (.v (wd b)), some (.v (.int 0)), some (.v (wd a)), none, none] = some ([.bl false], [some (.v (fairD K)), some (.v (.tup [wd a, wd b])), some (.v (wd b)), some (.v (.int 0)), some (.v (wd a)), none, none]) := by
    rw [lcL_cons (x := none) (ρ1 := [some (.v (fairD K)), some (.v (.tup [wd a, wd b])), some (.v (wd b)), some (.v (.int 0)), some (.v (wd a)), none, none]) (by simp -implicitDefEqProofs only [e_bdo, e_bdn, e_bd, e_ob, e_obn, e_grt, e_grf, e_set0, e_setS, e_can0, e_can1, e_can2, e_can3, e_canS, e_own0, e_ownS, e_iol0, e_iolS, e_gt0, e_gtS, e_var, e_rdv, e_rdo, e_c, e_drv, e_drs, e_drov, e_droo, e_tvv, e_tvs, e_tvov, e_tvoo, e_tvl0, e_tvl1, e_drl0, e_drl1, e_m2, e_m2F, e_m1, e_mT, e_tbo, e_mFr, e_nil, e_cons, e_mB, e_mBF, e_tup, e_lst, e_call, e_callF, e_callIO, e_ioo, e_and, e_andt, e_andf, e_or, e_ort, e_orf, e_not, e_noto, e_bot, e_bof, e_if, e_tand, e_tor, e_tnot, e_isi, e_seq, e_seqn, e_seqr, e_seqb, e_seqc, e_seqo, e_snil, e_sno, e_sif, e_ift, e_iff, e_set, e_setF, e_ret, e_expr, e_gvar, e_par, e_par2, e_par3o, e_par3, e_gtup, e_gcons, e_gnil, e_for, e_sq, e_sql, e_sqt, e_r1, e_rgo, e_r2, e_rgo2, e_frn, e_frv, e_fro, e_fr1, e_fr2, e_wi1, e_wi2, e_re1, e_re2, e_lc, e_lcT, e_lctt, e_lctf, e_slL, e_slo, e_oNo, e_oS, e_oso, e_cut1, e_rev, e_rvo, e_ch, e_cht, e_chf, e_six, e_sxo, e_ixs, e_lens, e_lsts, e_lstl, e_lstt, e_pow, e_eqb, e_neb, e_ntb, e_isbb, e_isn, e_non, e_gt2, e_tint_non, e_tint_bl, e_tint_int, e_tint_str, e_tint_tup, e_tint_lst, e_tint_scr, e_tbool_non, e_tbool_bl, e_tbool_int, e_tbool_str, e_tbool_tup, e_tbool_lst, e_tbool_scr, e_tstr_non, e_tstr_bl, e_tstr_int, e_tstr_str, e_tstr_tup, e_tstr_lst, e_tstr_scr, e_ttuple_non, e_ttuple_bl, e_ttuple_int, e_ttuple_str, e_ttuple_tup, e_ttuple_lst, e_ttuple_scr, e_tlist_non, e_tlist_bl, e_tlist_int, e_tlist_str, e_tlist_tup, e_tlist_lst, e_tlist_scr, e_forn, e_fcn, e_fcr, e_fcc, e_fcb, e_revT, e_rvT, e_lr, e_tr, e_rg1, e_rg2, e_rgo1, e_rg2o, e_en, e_enl, e_ent, e_zp, e_zpl, e_zpt, e_isi2, e_catT, e_catL, e_aug, e_ago, e_agn, e_meth1, e_meo, e_apd, e_dc, e_dcT, e_dctt, e_dctf, e_koi, e_kos, e_dg, e_augix, e_aug2, e_sl, e_sl2l, e_sl2t, e_repT, e_repL, e_yes, e_add, e_sub, e_mul, e_fdiv, e_mod, e_cmp, e_neg, e_ixt, e_ixl, e_at0, e_at1, e_at2, e_at3, e_eqi, e_nei, e_abs, e_int, e_intb, e_lenl, e_lent, e_tupl, e_tupt, e_can4, e_gtn, e_fori, e_fio, e_setdc, e_sdco, e_get2, e_isdk, e_geto, e_gtos, e_gton, e_newd, e_disp1, e_parok, e_parov, e_parvo, e_paroo, e_indc, e_nindc, e_max2, e_min2, e_meth0, e_me0, items_nil, items_cons, keyD_i, e_ch3, e_c3t, e_c3f, e_rgd2, e_rgv, e_rgvo, e_gsub, e_sub2, e_index, e_isl, e_lc2, bne_self_eq_false, beq_self_eq_true, Nat.reduceBEq, Nat.reduceEqDiff, List.length_cons, List.length_nil, Bool.and_true, Bool.true_and, lo1, lo2, lo3, lo4, lo5, decide_true, decide_false, fino2_r, fino_r, outo_r, outo_n, List.set_cons_zero, List.set_cons_succ, fino_n, Bool.not_true, Bool.not_false, e_nei, decide_true]), lcL_cons (x := some (.bl false)) (ρ1 := [some (.v (fairD K)), some (.v (.tup [wd a, wd b])), some (.v (wd b)), some (.v (.int 0)), some (.v (wd a)), none, none]) (by simp -implicitDefEqProofs only [e_bdo, e_bdn, e_bd, e_ob, e_obn, e_grt, e_grf, e_set0, e_setS, e_can0, e_can1, e_can2, e_can3, e_canS, e_own0, e_ownS, e_iol0, e_iolS, e_gt0, e_gtS, e_var, e_rdv, e_rdo, e_c, e_drv, e_drs, e_drov, e_droo, e_tvv, e_tvs, e_tvov, e_tvoo, e_tvl0, e_tvl1, e_drl0, e_drl1, e_m2, e_m2F, e_m1, e_mT, e_tbo, e_mFr, e_nil, e_cons, e_mB, e_mBF, e_tup, e_lst, e_call, e_callF, e_callIO, e_ioo, e_and, e_andt, e_andf, e_or, e_ort, e_orf, e_not, e_noto, e_bot, e_bof, e_if, e_tand, e_tor, e_tnot, e_isi, e_seq, e_seqn, e_seqr, e_seqb, e_seqc, e_seqo, e_snil, e_sno, e_sif, e_ift, e_iff, e_set, e_setF, e_ret, e_expr, e_gvar, e_par, e_par2, e_par3o, e_par3, e_gtup, e_gcons, e_gnil, e_for, e_sq, e_sql, e_sqt, e_r1, e_rgo, e_r2, e_rgo2, e_frn, e_frv, e_fro, e_fr1, e_fr2, e_wi1, e_wi2, e_re1, e_re2, e_lc, e_lcT, e_lctt, e_lctf, e_slL, e_slo, e_oNo, e_oS, e_oso, e_cut1, e_rev, e_rvo, e_ch, e_cht, e_chf, e_six, e_sxo, e_ixs, e_lens, e_lsts, e_lstl, e_lstt, e_pow, e_eqb, e_neb, e_ntb, e_isbb, e_isn, e_non, e_gt2, e_tint_non, e_tint_bl, e_tint_int, e_tint_str, e_tint_tup, e_tint_lst, e_tint_scr, e_tbool_non, e_tbool_bl, e_tbool_int, e_tbool_str, e_tbool_tup, e_tbool_lst, e_tbool_scr, e_tstr_non, e_tstr_bl, e_tstr_int, e_tstr_str, e_tstr_tup, e_tstr_lst, e_tstr_scr, e_ttuple_non, e_ttuple_bl, e_ttuple_int, e_ttuple_str, e_ttuple_tup, e_ttuple_lst, e_ttuple_scr, e_tlist_non, e_tlist_bl, e_tlist_int, e_tlist_str, e_tlist_tup, e_tlist_lst, e_tlist_scr, e_forn, e_fcn, e_fcr, e_fcc, e_fcb, e_revT, e_rvT, e_lr, e_tr, e_rg1, e_rg2, e_rgo1, e_rg2o, e_en, e_enl, e_ent, e_zp, e_zpl, e_zpt, e_isi2, e_catT, e_catL, e_aug, e_ago, e_agn, e_meth1, e_meo, e_apd, e_dc, e_dcT, e_dctt, e_dctf, e_koi, e_kos, e_dg, e_augix, e_aug2, e_sl, e_sl2l, e_sl2t, e_repT, e_repL, e_yes, e_add, e_sub, e_mul, e_fdiv, e_mod, e_cmp, e_neg, e_ixt, e_ixl, e_at0, e_at1, e_at2, e_at3, e_eqi, e_nei, e_abs, e_int, e_intb, e_lenl, e_lent, e_tupl, e_tupt, e_can4, e_gtn, e_fori, e_fio, e_setdc, e_sdco, e_get2, e_isdk, e_geto, e_gtos, e_gton, e_newd, e_disp1, e_parok, e_parov, e_parvo, e_paroo, e_indc, e_nindc, e_max2, e_min2, e_meth0, e_me0, items_nil, items_cons, keyD_i, e_ch3, e_c3t, e_c3f, e_rgd2, e_rgv, e_rgvo, e_gsub, e_sub2, e_index, e_isl, e_lc2, bne_self_eq_false, beq_self_eq_true, Nat.reduceBEq, Nat.reduceEqDiff, List.length_cons, List.length_nil, Bool.and_true, Bool.true_and, lo1, lo2, lo3, lo4, lo5, decide_true, decide_false, fino2_r, fino_r, outo_r, outo_n, List.set_cons_zero, List.set_cons_succ, fino_n, Bool.not_true, Bool.not_false, e_nei, show decide ((1 : Int) = 0) = false from rfl, p1])]
    rfl
  have c1 : lcL (gTup' 2 (gCons' (gVar 5) (gCons' (gVar 6) gNil'))) (mT (m2 neD (mVar 5) (mVar 3))) (mCall den_has_part (lCons (mVar 4) (lCons (mVar 6) lNil))) [5, 6] [.tup [.int 0, wd a], .tup [.int 1, wd b]] [some (.v (fairD K)), some (.v (.tup [wd a, wd b])), some (.v (wd b)), some (.v (.int 1)), some (.v (wd b)), none, none] = some ([.bl false], [some (.v (fairD K)), some (.v (.tup [wd a, wd b])), some (.v (wd b)), some (.v (.int 1)), some (.v (wd b)), none, none]) := by
    rw [lcL_cons (x := some (.bl false)) (ρ1 := [some (.v (fairD K)), some (.v (.tup [wd a, wd b])), some (.v (wd b)), some (.v (.int 1)), some (.v (wd b)), none, none]) (by simp -implicitDefEqProofs only [e_bdo, e_bdn, e_bd, e_ob, e_obn, e_grt, e_grf, e_set0, e_setS, e_can0, e_can1, e_can2, e_can3, e_canS, e_own0, e_ownS, e_iol0, e_iolS, e_gt0, e_gtS, e_var, e_rdv, e_rdo, e_c, e_drv, e_drs, e_drov, e_droo, e_tvv, e_tvs, e_tvov, e_tvoo, e_tvl0, e_tvl1, e_drl0, e_drl1, e_m2, e_m2F, e_m1, e_mT, e_tbo, e_mFr, e_nil, e_cons, e_mB, e_mBF, e_tup, e_lst, e_call, e_callF, e_callIO, e_ioo, e_and, e_andt, e_andf, e_or, e_ort, e_orf, e_not, e_noto, e_bot, e_bof, e_if, e_tand, e_tor, e_tnot, e_isi, e_seq, e_seqn, e_seqr, e_seqb, e_seqc, e_seqo, e_snil, e_sno, e_sif, e_ift, e_iff, e_set, e_setF, e_ret, e_expr, e_gvar, e_par, e_par2, e_par3o, e_par3, e_gtup, e_gcons, e_gnil, e_for, e_sq, e_sql, e_sqt, e_r1, e_rgo, e_r2, e_rgo2, e_frn, e_frv, e_fro, e_fr1, e_fr2, e_wi1, e_wi2, e_re1, e_re2, e_lc, e_lcT, e_lctt, e_lctf, e_slL, e_slo, e_oNo, e_oS, e_oso, e_cut1, e_rev, e_rvo, e_ch, e_cht, e_chf, e_six, e_sxo, e_ixs, e_lens, e_lsts, e_lstl, e_lstt, e_pow, e_eqb, e_neb, e_ntb, e_isbb, e_isn, e_non, e_gt2, e_tint_non, e_tint_bl, e_tint_int, e_tint_str, e_tint_tup, e_tint_lst, e_tint_scr, e_tbool_non, e_tbool_bl, e_tbool_int, e_tbool_str, e_tbool_tup, e_tbool_lst, e_tbool_scr, e_tstr_non, e_tstr_bl, e_tstr_int, e_tstr_str, e_tstr_tup, e_tstr_lst, e_tstr_scr, e_ttuple_non, e_ttuple_bl, e_ttuple_int, e_ttuple_str, e_ttuple_tup, e_ttuple_lst, e_ttuple_scr, e_tlist_non, e_tlist_bl, e_tlist_int, e_tlist_str, e_tlist_tup, e_tlist_lst, e_tlist_scr, e_forn, e_fcn, e_fcr, e_fcc, e_fcb, e_revT, e_rvT, e_lr, e_tr, e_rg1, e_rg2, e_rgo1, e_rg2o, e_en, e_enl, e_ent, e_zp, e_zpl, e_zpt, e_isi2, e_catT, e_catL, e_aug, e_ago, e_agn, e_meth1, e_meo, e_apd, e_dc, e_dcT, e_dctt, e_dctf, e_koi, e_kos, e_dg, e_augix, e_aug2, e_sl, e_sl2l, e_sl2t, e_repT, e_repL, e_yes, e_add, e_sub, e_mul, e_fdiv, e_mod, e_cmp, e_neg, e_ixt, e_ixl, e_at0, e_at1, e_at2, e_at3, e_eqi, e_nei, e_abs, e_int, e_intb, e_lenl, e_lent, e_tupl, e_tupt, e_can4, e_gtn, e_fori, e_fio, e_setdc, e_sdco, e_get2, e_isdk, e_geto, e_gtos, e_gton, e_newd, e_disp1, e_parok, e_parov, e_parvo, e_paroo, e_indc, e_nindc, e_max2, e_min2, e_meth0, e_me0, items_nil, items_cons, keyD_i, e_ch3, e_c3t, e_c3f, e_rgd2, e_rgv, e_rgvo, e_gsub, e_sub2, e_index, e_isl, e_lc2, bne_self_eq_false, beq_self_eq_true, Nat.reduceBEq, Nat.reduceEqDiff, List.length_cons, List.length_nil, Bool.and_true, Bool.true_and, lo1, lo2, lo3, lo4, lo5, decide_true, decide_false, fino2_r, fino_r, outo_r, outo_n, List.set_cons_zero, List.set_cons_succ, fino_n, Bool.not_true, Bool.not_false, e_nei, show decide ((0 : Int) = 1) = false from rfl, p2]), lcL_cons (x := none) (ρ1 := [some (.v (fairD K)), some (.v (.tup [wd a, wd b])), some (.v (wd b)), some (.v (.int 1)), some (.v (wd b)), none, none]) (by simp -implicitDefEqProofs only [e_bdo, e_bdn, e_bd, e_ob, e_obn, e_grt, e_grf, e_set0, e_setS, e_can0, e_can1, e_can2, e_can3, e_canS, e_own0, e_ownS, e_iol0, e_iolS, e_gt0, e_gtS, e_var, e_rdv, e_rdo, e_c, e_drv, e_drs, e_drov, e_droo, e_tvv, e_tvs, e_tvov, e_tvoo, e_tvl0, e_tvl1, e_drl0, e_drl1, e_m2, e_m2F, e_m1, e_mT, e_tbo, e_mFr, e_nil, e_cons, e_mB, e_mBF, e_tup, e_lst, e_call, e_callF, e_callIO, e_ioo, e_and, e_andt, e_andf, e_or, e_ort, e_orf, e_not, e_noto, e_bot, e_bof, e_if, e_tand, e_tor, e_tnot, e_isi, e_seq, e_seqn, e_seqr, e_seqb, e_seqc, e_seqo, e_snil, e_sno, e_sif, e_ift, e_iff, e_set, e_setF, e_ret, e_expr, e_gvar, e_par, e_par2, e_par3o, e_par3, e_gtup, e_gcons, e_gnil, e_for, e_sq, e_sql, e_sqt, e_r1, e_rgo, e_r2, e_rgo2, e_frn, e_frv, e_fro, e_fr1, e_fr2, e_wi1, e_wi2, e_re1, e_re2, e_lc, e_lcT, e_lctt, e_lctf, e_slL, e_slo, e_oNo, e_oS, e_oso, e_cut1, e_rev, e_rvo, e_ch, e_cht, e_chf, e_six, e_sxo, e_ixs, e_lens, e_lsts, e_lstl, e_lstt, e_pow, e_eqb, e_neb, e_ntb, e_isbb, e_isn, e_non, e_gt2, e_tint_non, e_tint_bl, e_tint_int, e_tint_str, e_tint_tup, e_tint_lst, e_tint_scr, e_tbool_non, e_tbool_bl, e_tbool_int, e_tbool_str, e_tbool_tup, e_tbool_lst, e_tbool_scr, e_tstr_non, e_tstr_bl, e_tstr_int, e_tstr_str, e_tstr_tup, e_tstr_lst, e_tstr_scr, e_ttuple_non, e_ttuple_bl, e_ttuple_int, e_ttuple_str, e_ttuple_tup, e_ttuple_lst, e_ttuple_scr, e_tlist_non, e_tlist_bl, e_tlist_int, e_tlist_str, e_tlist_tup, e_tlist_lst, e_tlist_scr, e_forn, e_fcn, e_fcr, e_fcc, e_fcb, e_revT, e_rvT, e_lr, e_tr, e_rg1, e_rg2, e_rgo1, e_rg2o, e_en, e_enl, e_ent, e_zp, e_zpl, e_zpt, e_isi2, e_catT, e_catL, e_aug, e_ago, e_agn, e_meth1, e_meo, e_apd, e_dc, e_dcT, e_dctt, e_dctf, e_koi, e_kos, e_dg, e_augix, e_aug2, e_sl, e_sl2l, e_sl2t, e_repT, e_repL, e_yes, e_add, e_sub, e_mul, e_fdiv, e_mod, e_cmp, e_neg, e_ixt, e_ixl, e_at0, e_at1, e_at2, e_at3, e_eqi, e_nei, e_abs, e_int, e_intb, e_lenl, e_lent, e_tupl, e_tupt, e_can4, e_gtn, e_fori, e_fio, e_setdc, e_sdco, e_get2, e_isdk, e_geto, e_gtos, e_gton, e_newd, e_disp1, e_parok, e_parov, e_parvo, e_paroo, e_indc, e_nindc, e_max2, e_min2, e_meth0, e_me0, items_nil, items_cons, keyD_i, e_ch3, e_c3t, e_c3f, e_rgd2, e_rgv, e_rgvo, e_gsub, e_sub2, e_index, e_isl, e_lc2, bne_self_eq_false, beq_self_eq_true, Nat.reduceBEq, Nat.reduceEqDiff, List.length_cons, List.length_nil, Bool.and_true, Bool.true_and, lo1, lo2, lo3, lo4, lo5, decide_true, decide_false, fino2_r, fino_r, outo_r, outo_n, List.set_cons_zero, List.set_cons_succ, fino_n, Bool.not_true, Bool.not_false, e_nei, decide_true])]
    rfl
  have an : anyD [.lst [.bl false]] = some (.bl false) := rfl
  have lc := look_chances h.k
  unfold m_look_at_words
  simp -implicitDefEqProofs only [e_bdo, e_bdn, e_bd, e_ob, e_obn, e_grt, e_grf, e_set0, e_setS, e_can0, e_can1, e_can2, e_can3, e_canS, e_own0, e_ownS, e_iol0, e_iolS, e_gt0, e_gtS, e_var, e_rdv, e_rdo, e_c, e_drv, e_drs, e_drov, e_droo, e_tvv, e_tvs, e_tvov, e_tvoo, e_tvl0, e_tvl1, e_drl0, e_drl1, e_m2, e_m2F, e_m1, e_mT, e_tbo, e_mFr, e_nil, e_cons, e_mB, e_mBF, e_tup, e_lst, e_call, e_callF, e_callIO, e_ioo, e_and, e_andt, e_andf, e_or, e_ort, e_orf, e_not, e_noto, e_bot, e_bof, e_if, e_tand, e_tor, e_tnot, e_isi, e_seq, e_seqn, e_seqr, e_seqb, e_seqc, e_seqo, e_snil, e_sno, e_sif, e_ift, e_iff, e_set, e_setF, e_ret, e_expr, e_gvar, e_par, e_par2, e_par3o, e_par3, e_gtup, e_gcons, e_gnil, e_for, e_sq, e_sql, e_sqt, e_r1, e_rgo, e_r2, e_rgo2, e_frn, e_frv, e_fro, e_fr1, e_fr2, e_wi1, e_wi2, e_re1, e_re2, e_lc, e_lcT, e_lctt, e_lctf, e_slL, e_slo, e_oNo, e_oS, e_oso, e_cut1, e_rev, e_rvo, e_ch, e_cht, e_chf, e_six, e_sxo, e_ixs, e_lens, e_lsts, e_lstl, e_lstt, e_pow, e_eqb, e_neb, e_ntb, e_isbb, e_isn, e_non, e_gt2, e_tint_non, e_tint_bl, e_tint_int, e_tint_str, e_tint_tup, e_tint_lst, e_tint_scr, e_tbool_non, e_tbool_bl, e_tbool_int, e_tbool_str, e_tbool_tup, e_tbool_lst, e_tbool_scr, e_tstr_non, e_tstr_bl, e_tstr_int, e_tstr_str, e_tstr_tup, e_tstr_lst, e_tstr_scr, e_ttuple_non, e_ttuple_bl, e_ttuple_int, e_ttuple_str, e_ttuple_tup, e_ttuple_lst, e_ttuple_scr, e_tlist_non, e_tlist_bl, e_tlist_int, e_tlist_str, e_tlist_tup, e_tlist_lst, e_tlist_scr, e_forn, e_fcn, e_fcr, e_fcc, e_fcb, e_revT, e_rvT, e_lr, e_tr, e_rg1, e_rg2, e_rgo1, e_rg2o, e_en, e_enl, e_ent, e_zp, e_zpl, e_zpt, e_isi2, e_catT, e_catL, e_aug, e_ago, e_agn, e_meth1, e_meo, e_apd, e_dc, e_dcT, e_dctt, e_dctf, e_koi, e_kos, e_dg, e_augix, e_aug2, e_sl, e_sl2l, e_sl2t, e_repT, e_repL, e_yes, e_add, e_sub, e_mul, e_fdiv, e_mod, e_cmp, e_neg, e_ixt, e_ixl, e_at0, e_at1, e_at2, e_at3, e_eqi, e_nei, e_abs, e_int, e_intb, e_lenl, e_lent, e_tupl, e_tupt, e_can4, e_gtn, e_fori, e_fio, e_setdc, e_sdco, e_get2, e_isdk, e_geto, e_gtos, e_gton, e_newd, e_disp1, e_parok, e_parov, e_parvo, e_paroo, e_indc, e_nindc, e_max2, e_min2, e_meth0, e_me0, items_nil, items_cons, keyD_i, e_ch3, e_c3t, e_c3f, e_rgd2, e_rgv, e_rgvo, e_gsub, e_sub2, e_index, e_isl, e_lc2, bne_self_eq_false, beq_self_eq_true, Nat.reduceBEq, Nat.reduceEqDiff, List.length_cons, List.length_nil, Bool.and_true, Bool.true_and, lo1, lo2, lo3, lo4, lo5, decide_true, decide_false, fino2_r, fino_r, outo_r, outo_n, List.set_cons_zero, List.set_cons_succ, fino_n, Bool.not_true, Bool.not_false, lc, show decide (((0 + 1 + 1 : Nat) : Int) < 2) = false from rfl, e_for, e_forc, la, lb, en, c0, c1, an, lo2]
theorem ints_less {x y : Int} (hx : x.natAbs < 2 ^ 50) (hy : y.natAbs < 2 ^ 50) : den_less [sh (x : Rat), sh (y : Rat)] = some (sh ((x - y : Int) : Rat)) := by
  have l := (less_eq (sz_int (k := 50) hx (by decide)) (sz_int (k := 50) hy (by decide)) (by omega)).1
  have e : (x : Rat) - (y : Rat) = ((x - y : Int) : Rat) := by rw [int_one, int_one y, int_one (x - y), fr_sub (by decide)]
  rw [e] at l
  exact l
theorem ints_plus {x y : Int} (hx : x.natAbs < 2 ^ 50) (hy : y.natAbs < 2 ^ 50) : den_plus [sh (x : Rat), sh (y : Rat)] = some (sh ((x + y : Int) : Rat)) := by
  have l := (plus_eq (sz_int (k := 50) hx (by decide)) (sz_int (k := 50) hy (by decide)) (by omega)).1
  have e : (x : Rat) + (y : Rat) = ((x + y : Int) : Rat) := by rw [int_one, int_one y, int_one (x + y), fr_add (by decide)]
  rw [e] at l
  exact l
theorem ints_over {x y : Int} (hx : x.natAbs < 2 ^ 50) (hy : y.natAbs < 2 ^ 50) (h0 : y ≠ 0) : den_over [sh (x : Rat), sh (y : Rat)] = some (sh (fr' x y)) := by
  have l := (over_eq (sz_int (k := 50) hx (by decide)) (sz_int (k := 50) hy (by decide)) h0 (by omega)).1
  have e : (x : Rat) / (y : Rat) = fr' x y := by
    rw [int_one, int_one y]
    unfold fr'
    rw [Rat.div_def, Rat.inv_divInt, Rat.divInt_mul_divInt, Int.mul_one, Int.one_mul]
  rw [e] at l
  exact l
theorem odds_eq {K n : Nat} (h : KN K n) {a b : List Int} (ha : Wn K n a) (hb : Wn K n b) (ne : a ≠ b) : den_odds [.int (K : Int), wd a, wd b] = some (.tup [sh (val K b a), sh (val K a b)]) := by
  rw [den_odds, den_of]
  show fino (m_odds [some (.v (.int (K : Int))), some (.v (wd a)), some (.v (wd b)), none, none, none]) = _
  have wa := ha.wd h
  have wb := hb.wd h
  have n5 := h.n5
  have l1 := ha.2
  have l2 := hb.2
  have b1 := ld_bd h.k (a := b) (b := b) (by omega)
  have b2 := ld_bd h.k (a := b) (b := a) (by omega)
  have b3 := ld_bd h.k (a := a) (b := a) (by omega)
  have b4 := ld_bd h.k (a := a) (b := b) (by omega)
  have p1 := on_pos h ha hb ne
  have p2 := on_pos h hb ha (Ne.symm ne)
  have o1 := on_bd h ha hb
  have o2 := on_bd h hb ha
  have e1 := ints_less (x := ld K b b) (y := ld K b a) (by omega) (by omega)
  have e2 := ints_less (x := ld K a a) (y := ld K a b) (by omega) (by omega)
  have e3 := ints_plus (x := on K a b) (y := on K b a) (by omega) (by omega)
  have e4 := ints_over (x := on K a b) (y := on K a b + on K b a) (by omega) (by omega) (by omega)
  have e5 := ints_over (x := on K b a) (y := on K a b + on K b a) (by omega) (by omega) (by omega)
  have e1 : den_less [sh ((ld K b b : Int) : Rat), sh ((ld K b a : Int) : Rat)] = some (sh ((on K a b : Int) : Rat)) := e1
  have e2 : den_less [sh ((ld K a a : Int) : Rat), sh ((ld K a b : Int) : Rat)] = some (sh ((on K b a : Int) : Rat)) := e2
  have v2 : val K a b = fr' (on K b a) (on K a b + on K b a) := by unfold val; rw [Int.add_comm]
  unfold m_odds
  simp -implicitDefEqProofs only [e_bdo, e_bdn, e_bd, e_ob, e_obn, e_grt, e_grf, e_set0, e_setS, e_can0, e_can1, e_can2, e_can3, e_canS, e_own0, e_ownS, e_iol0, e_iolS, e_gt0, e_gtS, e_var, e_rdv, e_rdo, e_c, e_drv, e_drs, e_drov, e_droo, e_tvv, e_tvs, e_tvov, e_tvoo, e_tvl0, e_tvl1, e_drl0, e_drl1, e_m2, e_m2F, e_m1, e_mT, e_tbo, e_mFr, e_nil, e_cons, e_mB, e_mBF, e_tup, e_lst, e_call, e_callF, e_callIO, e_ioo, e_and, e_andt, e_andf, e_or, e_ort, e_orf, e_not, e_noto, e_bot, e_bof, e_if, e_tand, e_tor, e_tnot, e_isi, e_seq, e_seqn, e_seqr, e_seqb, e_seqc, e_seqo, e_snil, e_sno, e_sif, e_ift, e_iff, e_set, e_setF, e_ret, e_expr, e_gvar, e_par, e_par2, e_par3o, e_par3, e_gtup, e_gcons, e_gnil, e_for, e_sq, e_sql, e_sqt, e_r1, e_rgo, e_r2, e_rgo2, e_frn, e_frv, e_fro, e_fr1, e_fr2, e_wi1, e_wi2, e_re1, e_re2, e_lc, e_lcT, e_lctt, e_lctf, e_slL, e_slo, e_oNo, e_oS, e_oso, e_cut1, e_rev, e_rvo, e_ch, e_cht, e_chf, e_six, e_sxo, e_ixs, e_lens, e_lsts, e_lstl, e_lstt, e_pow, e_eqb, e_neb, e_ntb, e_isbb, e_isn, e_non, e_gt2, e_tint_non, e_tint_bl, e_tint_int, e_tint_str, e_tint_tup, e_tint_lst, e_tint_scr, e_tbool_non, e_tbool_bl, e_tbool_int, e_tbool_str, e_tbool_tup, e_tbool_lst, e_tbool_scr, e_tstr_non, e_tstr_bl, e_tstr_int, e_tstr_str, e_tstr_tup, e_tstr_lst, e_tstr_scr, e_ttuple_non, e_ttuple_bl, e_ttuple_int, e_ttuple_str, e_ttuple_tup, e_ttuple_lst, e_ttuple_scr, e_tlist_non, e_tlist_bl, e_tlist_int, e_tlist_str, e_tlist_tup, e_tlist_lst, e_tlist_scr, e_forn, e_fcn, e_fcr, e_fcc, e_fcb, e_revT, e_rvT, e_lr, e_tr, e_rg1, e_rg2, e_rgo1, e_rg2o, e_en, e_enl, e_ent, e_zp, e_zpl, e_zpt, e_isi2, e_catT, e_catL, e_aug, e_ago, e_agn, e_meth1, e_meo, e_apd, e_dc, e_dcT, e_dctt, e_dctf, e_koi, e_kos, e_dg, e_augix, e_aug2, e_sl, e_sl2l, e_sl2t, e_repT, e_repL, e_yes, e_add, e_sub, e_mul, e_fdiv, e_mod, e_cmp, e_neg, e_ixt, e_ixl, e_at0, e_at1, e_at2, e_at3, e_eqi, e_nei, e_abs, e_int, e_intb, e_lenl, e_lent, e_tupl, e_tupt, e_can4, e_gtn, e_fori, e_fio, e_setdc, e_sdco, e_get2, e_isdk, e_geto, e_gtos, e_gton, e_newd, e_disp1, e_parok, e_parov, e_parvo, e_paroo, e_indc, e_nindc, e_max2, e_min2, e_meth0, e_me0, items_nil, items_cons, keyD_i, e_ch3, e_c3t, e_c3f, e_rgd2, e_rgv, e_rgvo, e_gsub, e_sub2, e_index, e_isl, e_lc2, bne_self_eq_false, beq_self_eq_true, Nat.reduceBEq, Nat.reduceEqDiff, List.length_cons, List.length_nil, Bool.and_true, Bool.true_and, lo1, lo2, lo3, lo4, lo5, decide_true, decide_false, fino2_r, fino_r, outo_r, outo_n, List.set_cons_zero, List.set_cons_succ, fino_n, Bool.not_true, Bool.not_false, fair_eq h.k, look_words h ha hb ne, lead_eq h.k wb wb, lead_eq h.k wb wa, lead_eq h.k wa wa, lead_eq h.k wa wb, e1, e2, e3, e4, e5]
  rw [v2]
  rfl
theorem is_answer_eq {K n : Nat} (h : KN K n) {w o : List Int} (hw : Wn K n w) (ho : Wn K n o) (ne : o ≠ w) : den_is_answer [.int (K : Int), wd w, wd o] = some (.bl (decide (fr' 1 2 < val K w o))) := by
  rw [den_is_answer, den_of]
  show fino (m_is_answer [some (.v (.int (K : Int))), some (.v (wd w)), some (.v (wd o)), none]) = _
  have oe := odds_eq h ho hw ne
  have b1 := on_bd h ho hw
  have b2 := on_bd h hw ho
  have p1 := on_pos h ho hw ne
  have p2 := on_pos h hw ho (Ne.symm ne)
  have sv : Sz 60 (val K w o) := Sz.div (by omega) (by omega) (by omega)
  have il := is_less_eq (p := fr' 1 2) (j := 3) (Sz.div (by decide) (by decide) (by decide)) sv (by omega)
  have hf : D.tup [D.int 1, D.int 2] = sh (fr' 1 2) := by kernel_rfl
  unfold m_is_answer wd at *
  simp -implicitDefEqProofs only [e_bdo, e_bdn, e_bd, e_ob, e_obn, e_grt, e_grf, e_set0, e_setS, e_can0, e_can1, e_can2, e_can3, e_canS, e_own0, e_ownS, e_iol0, e_iolS, e_gt0, e_gtS, e_var, e_rdv, e_rdo, e_c, e_drv, e_drs, e_drov, e_droo, e_tvv, e_tvs, e_tvov, e_tvoo, e_tvl0, e_tvl1, e_drl0, e_drl1, e_m2, e_m2F, e_m1, e_mT, e_tbo, e_mFr, e_nil, e_cons, e_mB, e_mBF, e_tup, e_lst, e_call, e_callF, e_callIO, e_ioo, e_and, e_andt, e_andf, e_or, e_ort, e_orf, e_not, e_noto, e_bot, e_bof, e_if, e_tand, e_tor, e_tnot, e_isi, e_seq, e_seqn, e_seqr, e_seqb, e_seqc, e_seqo, e_snil, e_sno, e_sif, e_ift, e_iff, e_set, e_setF, e_ret, e_expr, e_gvar, e_par, e_par2, e_par3o, e_par3, e_gtup, e_gcons, e_gnil, e_for, e_sq, e_sql, e_sqt, e_r1, e_rgo, e_r2, e_rgo2, e_frn, e_frv, e_fro, e_fr1, e_fr2, e_wi1, e_wi2, e_re1, e_re2, e_lc, e_lcT, e_lctt, e_lctf, e_slL, e_slo, e_oNo, e_oS, e_oso, e_cut1, e_rev, e_rvo, e_ch, e_cht, e_chf, e_six, e_sxo, e_ixs, e_lens, e_lsts, e_lstl, e_lstt, e_pow, e_eqb, e_neb, e_ntb, e_isbb, e_isn, e_non, e_gt2, e_tint_non, e_tint_bl, e_tint_int, e_tint_str, e_tint_tup, e_tint_lst, e_tint_scr, e_tbool_non, e_tbool_bl, e_tbool_int, e_tbool_str, e_tbool_tup, e_tbool_lst, e_tbool_scr, e_tstr_non, e_tstr_bl, e_tstr_int, e_tstr_str, e_tstr_tup, e_tstr_lst, e_tstr_scr, e_ttuple_non, e_ttuple_bl, e_ttuple_int, e_ttuple_str, e_ttuple_tup, e_ttuple_lst, e_ttuple_scr, e_tlist_non, e_tlist_bl, e_tlist_int, e_tlist_str, e_tlist_tup, e_tlist_lst, e_tlist_scr, e_forn, e_fcn, e_fcr, e_fcc, e_fcb, e_revT, e_rvT, e_lr, e_tr, e_rg1, e_rg2, e_rgo1, e_rg2o, e_en, e_enl, e_ent, e_zp, e_zpl, e_zpt, e_isi2, e_catT, e_catL, e_aug, e_ago, e_agn, e_meth1, e_meo, e_apd, e_dc, e_dcT, e_dctt, e_dctf, e_koi, e_kos, e_dg, e_augix, e_aug2, e_sl, e_sl2l, e_sl2t, e_repT, e_repL, e_yes, e_add, e_sub, e_mul, e_fdiv, e_mod, e_cmp, e_neg, e_ixt, e_ixl, e_at0, e_at1, e_at2, e_at3, e_eqi, e_nei, e_abs, e_int, e_intb, e_lenl, e_lent, e_tupl, e_tupt, e_can4, e_gtn, e_fori, e_fio, e_setdc, e_sdco, e_get2, e_isdk, e_geto, e_gtos, e_gton, e_newd, e_disp1, e_parok, e_parov, e_parvo, e_paroo, e_indc, e_nindc, e_max2, e_min2, e_meth0, e_me0, items_nil, items_cons, keyD_i, e_ch3, e_c3t, e_c3f, e_rgd2, e_rgv, e_rgvo, e_gsub, e_sub2, e_index, e_isl, e_lc2, bne_self_eq_false, beq_self_eq_true, Nat.reduceBEq, Nat.reduceEqDiff, List.length_cons, List.length_nil, Bool.and_true, Bool.true_and, lo1, lo2, lo3, lo4, lo5, decide_true, decide_false, fino2_r, fino_r, outo_r, outo_n, List.set_cons_zero, List.set_cons_succ, fino_n, Bool.not_true, Bool.not_false, List.length_map, hw.2, ho.2, e_nei, decide_true, eq_tup_ints, decide_eq_false ne, oe, hf, il]
theorem is_answer_long {K n : Nat} {w o : List Int} (ne : o.length ≠ w.length) : den_is_answer [.int (K : Int), wd w, wd o] = some (.bl false) := by
  rw [den_is_answer, den_of]
  show fino (m_is_answer [some (.v (.int (K : Int))), some (.v (wd w)), some (.v (wd o)), none]) = _
  unfold m_is_answer wd
  simp -implicitDefEqProofs only [e_bdo, e_bdn, e_bd, e_ob, e_obn, e_grt, e_grf, e_set0, e_setS, e_can0, e_can1, e_can2, e_can3, e_canS, e_own0, e_ownS, e_iol0, e_iolS, e_gt0, e_gtS, e_var, e_rdv, e_rdo, e_c, e_drv, e_drs, e_drov, e_droo, e_tvv, e_tvs, e_tvov, e_tvoo, e_tvl0, e_tvl1, e_drl0, e_drl1, e_m2, e_m2F, e_m1, e_mT, e_tbo, e_mFr, e_nil, e_cons, e_mB, e_mBF, e_tup, e_lst, e_call, e_callF, e_callIO, e_ioo, e_and, e_andt, e_andf, e_or, e_ort, e_orf, e_not, e_noto, e_bot, e_bof, e_if, e_tand, e_tor, e_tnot, e_isi, e_seq, e_seqn, e_seqr, e_seqb, e_seqc, e_seqo, e_snil, e_sno, e_sif, e_ift, e_iff, e_set, e_setF, e_ret, e_expr, e_gvar, e_par, e_par2, e_par3o, e_par3, e_gtup, e_gcons, e_gnil, e_for, e_sq, e_sql, e_sqt, e_r1, e_rgo, e_r2, e_rgo2, e_frn, e_frv, e_fro, e_fr1, e_fr2, e_wi1, e_wi2, e_re1, e_re2, e_lc, e_lcT, e_lctt, e_lctf, e_slL, e_slo, e_oNo, e_oS, e_oso, e_cut1, e_rev, e_rvo, e_ch, e_cht, e_chf, e_six, e_sxo, e_ixs, e_lens, e_lsts, e_lstl, e_lstt, e_pow, e_eqb, e_neb, e_ntb, e_isbb, e_isn, e_non, e_gt2, e_tint_non, e_tint_bl, e_tint_int, e_tint_str, e_tint_tup, e_tint_lst, e_tint_scr, e_tbool_non, e_tbool_bl, e_tbool_int, e_tbool_str, e_tbool_tup, e_tbool_lst, e_tbool_scr, e_tstr_non, e_tstr_bl, e_tstr_int, e_tstr_str, e_tstr_tup, e_tstr_lst, e_tstr_scr, e_ttuple_non, e_ttuple_bl, e_ttuple_int, e_ttuple_str, e_ttuple_tup, e_ttuple_lst, e_ttuple_scr, e_tlist_non, e_tlist_bl, e_tlist_int, e_tlist_str, e_tlist_tup, e_tlist_lst, e_tlist_scr, e_forn, e_fcn, e_fcr, e_fcc, e_fcb, e_revT, e_rvT, e_lr, e_tr, e_rg1, e_rg2, e_rgo1, e_rg2o, e_en, e_enl, e_ent, e_zp, e_zpl, e_zpt, e_isi2, e_catT, e_catL, e_aug, e_ago, e_agn, e_meth1, e_meo, e_apd, e_dc, e_dcT, e_dctt, e_dctf, e_koi, e_kos, e_dg, e_augix, e_aug2, e_sl, e_sl2l, e_sl2t, e_repT, e_repL, e_yes, e_add, e_sub, e_mul, e_fdiv, e_mod, e_cmp, e_neg, e_ixt, e_ixl, e_at0, e_at1, e_at2, e_at3, e_eqi, e_nei, e_abs, e_int, e_intb, e_lenl, e_lent, e_tupl, e_tupt, e_can4, e_gtn, e_fori, e_fio, e_setdc, e_sdco, e_get2, e_isdk, e_geto, e_gtos, e_gton, e_newd, e_disp1, e_parok, e_parov, e_parvo, e_paroo, e_indc, e_nindc, e_max2, e_min2, e_meth0, e_me0, items_nil, items_cons, keyD_i, e_ch3, e_c3t, e_c3f, e_rgd2, e_rgv, e_rgvo, e_gsub, e_sub2, e_index, e_isl, e_lc2, bne_self_eq_false, beq_self_eq_true, Nat.reduceBEq, Nat.reduceEqDiff, List.length_cons, List.length_nil, Bool.and_true, Bool.true_and, lo1, lo2, lo3, lo4, lo5, decide_true, decide_false, fino2_r, fino_r, outo_r, outo_n, List.set_cons_zero, List.set_cons_succ, fino_n, Bool.not_true, Bool.not_false, List.length_map, e_nei, decide_eq_false (show ¬ (o.length : Int) = (w.length : Int) by omega)]
/-! races of two -/
theorem race_eq {K n : Nat} (h : KN K n) {a b : List Int} (ha : Wn K n a) (hb : Wn K n b) (ne : a ≠ b) : ∃ t, den_race [fairD K, .tup [wd a, wd b]] = some (.tup [.tup [sh (val K b a), sh (val K a b)], t]) := by
  have wa := ha.wd h
  have wb := hb.wd h
  have n5 := h.n5
  have l1 := ha.2
  have l2 := hb.2
  have b1 := ld_bd h.k (a := b) (b := b) (by omega)
  have b2 := ld_bd h.k (a := b) (b := a) (by omega)
  have b3 := ld_bd h.k (a := a) (b := a) (by omega)
  have b4 := ld_bd h.k (a := a) (b := b) (by omega)
  have p1 := on_pos h ha hb ne
  have p2 := on_pos h hb ha (Ne.symm ne)
  obtain ⟨A, hA⟩ : ∃ A : Rat, A = ((ld K a a : Int) : Rat) := ⟨_, rfl⟩
  obtain ⟨B, hB⟩ : ∃ B : Rat, B = ((ld K b a : Int) : Rat) := ⟨_, rfl⟩
  obtain ⟨C, hC⟩ : ∃ C : Rat, C = ((ld K a b : Int) : Rat) := ⟨_, rfl⟩
  obtain ⟨E, hE⟩ : ∃ E : Rat, E = ((ld K b b : Int) : Rat) := ⟨_, rfl⟩
  have hs : E - B + (A - C) = ((on K a b + on K b a : Int) : Rat) := by
    rw [hA, hB, hC, hE]
    unfold on
    rw [int_one (ld K b b), int_one (ld K b a), int_one (ld K a a), int_one (ld K a b), fr_sub (by decide), fr_sub (by decide), fr_add (by decide), ← int_one]
  have s0 : E - B + (A - C) ≠ 0 := by
    rw [hs]
    intro z
    have := Rat.num_eq_zero.mpr z
    have : on K a b + on K b a = 0 := this
    omega
  have v1 : val K b a = (E - B) / (E - B + (A - C)) := by
    rw [hs]
    unfold val
    rw [hE, hB]
    have e : ((ld K b b : Int) : Rat) - ((ld K b a : Int) : Rat) = ((on K a b : Int) : Rat) := by rw [int_one, int_one (ld K b a), fr_sub (by decide), ← int_one]; rfl
    rw [e, int_one, int_one (on K a b + on K b a)]
    unfold fr'
    rw [Rat.div_def, Rat.inv_divInt, Rat.divInt_mul_divInt, Int.mul_one, Int.one_mul]
  have v2 : val K a b = (A - C) / (E - B + (A - C)) := by
    rw [hs]
    unfold val
    rw [hA, hC]
    have e : ((ld K a a : Int) : Rat) - ((ld K a b : Int) : Rat) = ((on K b a : Int) : Rat) := by rw [int_one, int_one (ld K a b), fr_sub (by decide), ← int_one]; rfl
    rw [e, int_one, int_one (on K a b + on K b a), Int.add_comm (on K a b)]
    unfold fr'
    rw [Rat.div_def, Rat.inv_divInt, Rat.divInt_mul_divInt, Int.mul_one, Int.one_mul]
  have inv := Rat.mul_inv_cancel _ s0
  have M1 : Wf 3 3 [[A, B, -1, 0], [C, E, -1, 0], [1, 1, 0, 1]] := ⟨rfl, fun k hk => by
    have : k = 0 ∨ k = 1 ∨ k = 2 := by omega
    rcases this with rfl | rfl | rfl <;> rfl⟩
  have si : ∀ {x : Int}, 0 ≤ x ∧ x < 2 ^ 47 → Sz 50 (x : Rat) := fun {x} hx => sz_int (by omega) (by decide)
  have M2 : SzM 3 50 [[A, B, -1, 0], [C, E, -1, 0], [1, 1, 0, 1]] := fun k hk => by
    have z1 : Sz 50 (-1 : Rat) := ⟨by decide, by decide⟩
    have z0 : Sz 50 (0 : Rat) := ⟨by decide, by decide⟩
    have zz : Sz 50 (1 : Rat) := ⟨by decide, by decide⟩
    have zA : Sz 50 A := by rw [hA]; exact si b3
    have zB : Sz 50 B := by rw [hB]; exact si b2
    have zC : Sz 50 C := by rw [hC]; exact si b4
    have zE : Sz 50 E := by rw [hE]; exact si b1
    have : k = 0 ∨ k = 1 ∨ k = 2 := by omega
    rcases this with rfl | rfl | rfl <;> (intro x hx; simp only [rw', List.getD_cons_zero, List.getD_cons_succ, List.mem_cons, List.not_mem_nil, or_false] at hx)
    · rcases hx with rfl | rfl | rfl | rfl <;> assumption
    · rcases hx with rfl | rfl | rfl | rfl <;> assumption
    · rcases hx with rfl | rfl | rfl | rfl <;> assumption
  have dt3 : ∀ (g f : Nat → Rat), dt g f 3 = g 0 * f 0 + g 1 * f 1 + g 2 * f 2 := fun g f => by
    show 0 + g 0 * f 0 + g 1 * f 1 + g 2 * f 2 = _
    rw [Rat.zero_add]
  have M3 : Sol 3 3 [[A, B, -1, 0], [C, E, -1, 0], [1, 1, 0, 1]] (fun k => if k = 0 then val K b a else if k = 1 then val K a b else A * val K b a + B * val K a b) := fun k hk => by
    rw [dt3]
    have : k = 0 ∨ k = 1 ∨ k = 2 := by omega
    rcases this with rfl | rfl | rfl <;> simp only [ent, rw', List.getD_cons_zero, List.getD_cons_succ, if_true, show ¬ ((1 : Nat) = 0) by decide, show ¬ ((2 : Nat) = 0) by decide, show ¬ ((2 : Nat) = 1) by decide, if_false]
    · grind
    · rw [v1, v2, Rat.div_def, Rat.div_def]; grind
    · rw [v1, v2, Rat.div_def, Rat.div_def]; grind
  have M4 : Inj 3 3 [[A, B, -1, 0], [C, E, -1, 0], [1, 1, 0, 1]] := fun f hf => by
    have r0 := hf 0 (by decide)
    have r1 := hf 1 (by decide)
    have r2 := hf 2 (by decide)
    rw [dt3] at r0 r1 r2
    simp only [ent, rw', List.getD_cons_zero, List.getD_cons_succ] at r0 r1 r2
    have f1 : f 1 = - f 0 := by grind
    have f2 : f 2 = A * f 0 - B * f 0 := by rw [f1] at r0; grind
    have f0 : (E - B + (A - C)) * f 0 = 0 := by rw [f1, f2] at r1; grind
    have z0 : f 0 = 0 := by grind
    intro j hj
    have : j = 0 ∨ j = 1 ∨ j = 2 := by omega
    rcases this with rfl | rfl | rfl
    · exact z0
    · rw [f1, z0]; rfl
    · rw [f2, z0]; grind
  have sv := solved_eq (J := 50) (.inl rfl) (by decide) (by decide) M1 M2 M3 M4 (by decide) (by decide) (by decide)
  rw [den_race, den_of]
  refine ⟨sh (A * val K b a + B * val K a b), ?_⟩
  show fino (m_race [some (.v (fairD K)), some (.v (.tup [wd a, wd b])), none, none, none, none]) = _
  have sv : den_solved [.lst [.lst [sh A, sh B, sh (-1), sh 0], .lst [sh C, sh E, sh (-1), sh 0], .lst [sh 1, sh 1, sh 0, sh 1]]] = some (.tup [sh (val K b a), sh (val K a b), sh (A * val K b a + B * val K a b)]) := sv
  have o1 : D.tup [D.int 1, D.int 1] = sh 1 := rfl
  have o0 : D.tup [D.int 0, D.int 1] = sh 0 := rfl
  have om : D.tup [D.int (-1), D.int 1] = sh (-1) := rfl
  have la := lead_eq h.k wa wa
  have lba := lead_eq h.k wb wa
  have lab := lead_eq h.k wa wb
  have lbb := lead_eq h.k wb wb
  rw [← hA] at la
  rw [← hB] at lba
  rw [← hC] at lab
  rw [← hE] at lbb
  have cw : ∀ (w x : List Int) (P Q R : D) (o2 : Option SV), den_lead [fairD K, wd a, wd w] = some P → den_lead [fairD K, wd b, wd w] = some Q → lcL (gVar 4) tYes' (mCall den_lead (lCons (mVar 0) (lCons (mVar 4) (lCons (mVar 3) lNil)))) [4] [wd a, wd b] [some (.v (fairD K)), some (.v (.tup [wd a, wd b])), o2, some (.v (wd w)), none, none] = some ([P, Q], [some (.v (fairD K)), some (.v (.tup [wd a, wd b])), o2, some (.v (wd w)), none, none]) := fun w x P Q R o2 h1 h2 => by
    rw [lcL_cons (x := some P) (ρ1 := [some (.v (fairD K)), some (.v (.tup [wd a, wd b])), o2, some (.v (wd w)), none, none]) (by simp -implicitDefEqProofs only [e_bdo, e_bdn, e_bd, e_ob, e_obn, e_grt, e_grf, e_set0, e_setS, e_can0, e_can1, e_can2, e_can3, e_canS, e_own0, e_ownS, e_iol0, e_iolS, e_gt0, e_gtS, e_var, e_rdv, e_rdo, e_c, e_drv, e_drs, e_drov, e_droo, e_tvv, e_tvs, e_tvov, e_tvoo, e_tvl0, e_tvl1, e_drl0, e_drl1, e_m2, e_m2F, e_m1, e_mT, e_tbo, e_mFr, e_nil, e_cons, e_mB, e_mBF, e_tup, e_lst, e_call, e_callF, e_callIO, e_ioo, e_and, e_andt, e_andf, e_or, e_ort, e_orf, e_not, e_noto, e_bot, e_bof, e_if, e_tand, e_tor, e_tnot, e_isi, e_seq, e_seqn, e_seqr, e_seqb, e_seqc, e_seqo, e_snil, e_sno, e_sif, e_ift, e_iff, e_set, e_setF, e_ret, e_expr, e_gvar, e_par, e_par2, e_par3o, e_par3, e_gtup, e_gcons, e_gnil, e_for, e_sq, e_sql, e_sqt, e_r1, e_rgo, e_r2, e_rgo2, e_frn, e_frv, e_fro, e_fr1, e_fr2, e_wi1, e_wi2, e_re1, e_re2, e_lc, e_lcT, e_lctt, e_lctf, e_slL, e_slo, e_oNo, e_oS, e_oso, e_cut1, e_rev, e_rvo, e_ch, e_cht, e_chf, e_six, e_sxo, e_ixs, e_lens, e_lsts, e_lstl, e_lstt, e_pow, e_eqb, e_neb, e_ntb, e_isbb, e_isn, e_non, e_gt2, e_tint_non, e_tint_bl, e_tint_int, e_tint_str, e_tint_tup, e_tint_lst, e_tint_scr, e_tbool_non, e_tbool_bl, e_tbool_int, e_tbool_str, e_tbool_tup, e_tbool_lst, e_tbool_scr, e_tstr_non, e_tstr_bl, e_tstr_int, e_tstr_str, e_tstr_tup, e_tstr_lst, e_tstr_scr, e_ttuple_non, e_ttuple_bl, e_ttuple_int, e_ttuple_str, e_ttuple_tup, e_ttuple_lst, e_ttuple_scr, e_tlist_non, e_tlist_bl, e_tlist_int, e_tlist_str, e_tlist_tup, e_tlist_lst, e_tlist_scr, e_forn, e_fcn, e_fcr, e_fcc, e_fcb, e_revT, e_rvT, e_lr, e_tr, e_rg1, e_rg2, e_rgo1, e_rg2o, e_en, e_enl, e_ent, e_zp, e_zpl, e_zpt, e_isi2, e_catT, e_catL, e_aug, e_ago, e_agn, e_meth1, e_meo, e_apd, e_dc, e_dcT, e_dctt, e_dctf, e_koi, e_kos, e_dg, e_augix, e_aug2, e_sl, e_sl2l, e_sl2t, e_repT, e_repL, e_yes, e_add, e_sub, e_mul, e_fdiv, e_mod, e_cmp, e_neg, e_ixt, e_ixl, e_at0, e_at1, e_at2, e_at3, e_eqi, e_nei, e_abs, e_int, e_intb, e_lenl, e_lent, e_tupl, e_tupt, e_can4, e_gtn, e_fori, e_fio, e_setdc, e_sdco, e_get2, e_isdk, e_geto, e_gtos, e_gton, e_newd, e_disp1, e_parok, e_parov, e_parvo, e_paroo, e_indc, e_nindc, e_max2, e_min2, e_meth0, e_me0, items_nil, items_cons, keyD_i, e_ch3, e_c3t, e_c3f, e_rgd2, e_rgv, e_rgvo, e_gsub, e_sub2, e_index, e_isl, e_lc2, bne_self_eq_false, beq_self_eq_true, Nat.reduceBEq, Nat.reduceEqDiff, List.length_cons, List.length_nil, Bool.and_true, Bool.true_and, lo1, lo2, lo3, lo4, lo5, decide_true, decide_false, fino2_r, fino_r, outo_r, outo_n, List.set_cons_zero, List.set_cons_succ, fino_n, Bool.not_true, Bool.not_false, h1]), lcL_cons (x := some Q) (ρ1 := [some (.v (fairD K)), some (.v (.tup [wd a, wd b])), o2, some (.v (wd w)), none, none]) (by simp -implicitDefEqProofs only [e_bdo, e_bdn, e_bd, e_ob, e_obn, e_grt, e_grf, e_set0, e_setS, e_can0, e_can1, e_can2, e_can3, e_canS, e_own0, e_ownS, e_iol0, e_iolS, e_gt0, e_gtS, e_var, e_rdv, e_rdo, e_c, e_drv, e_drs, e_drov, e_droo, e_tvv, e_tvs, e_tvov, e_tvoo, e_tvl0, e_tvl1, e_drl0, e_drl1, e_m2, e_m2F, e_m1, e_mT, e_tbo, e_mFr, e_nil, e_cons, e_mB, e_mBF, e_tup, e_lst, e_call, e_callF, e_callIO, e_ioo, e_and, e_andt, e_andf, e_or, e_ort, e_orf, e_not, e_noto, e_bot, e_bof, e_if, e_tand, e_tor, e_tnot, e_isi, e_seq, e_seqn, e_seqr, e_seqb, e_seqc, e_seqo, e_snil, e_sno, e_sif, e_ift, e_iff, e_set, e_setF, e_ret, e_expr, e_gvar, e_par, e_par2, e_par3o, e_par3, e_gtup, e_gcons, e_gnil, e_for, e_sq, e_sql, e_sqt, e_r1, e_rgo, e_r2, e_rgo2, e_frn, e_frv, e_fro, e_fr1, e_fr2, e_wi1, e_wi2, e_re1, e_re2, e_lc, e_lcT, e_lctt, e_lctf, e_slL, e_slo, e_oNo, e_oS, e_oso, e_cut1, e_rev, e_rvo, e_ch, e_cht, e_chf, e_six, e_sxo, e_ixs, e_lens, e_lsts, e_lstl, e_lstt, e_pow, e_eqb, e_neb, e_ntb, e_isbb, e_isn, e_non, e_gt2, e_tint_non, e_tint_bl, e_tint_int, e_tint_str, e_tint_tup, e_tint_lst, e_tint_scr, e_tbool_non, e_tbool_bl, e_tbool_int, e_tbool_str, e_tbool_tup, e_tbool_lst, e_tbool_scr, e_tstr_non, e_tstr_bl, e_tstr_int, e_tstr_str, e_tstr_tup, e_tstr_lst, e_tstr_scr, e_ttuple_non, e_ttuple_bl, e_ttuple_int, e_ttuple_str, e_ttuple_tup, e_ttuple_lst, e_ttuple_scr, e_tlist_non, e_tlist_bl, e_tlist_int, e_tlist_str, e_tlist_tup, e_tlist_lst, e_tlist_scr, e_forn, e_fcn, e_fcr, e_fcc, e_fcb, e_revT, e_rvT, e_lr, e_tr, e_rg1, e_rg2, e_rgo1, e_rg2o, e_en, e_enl, e_ent, e_zp, e_zpl, e_zpt, e_isi2, e_catT, e_catL, e_aug, e_ago, e_agn, e_meth1, e_meo, e_apd, e_dc, e_dcT, e_dctt, e_dctf, e_koi, e_kos, e_dg, e_augix, e_aug2, e_sl, e_sl2l, e_sl2t, e_repT, e_repL, e_yes, e_add, e_sub, e_mul, e_fdiv, e_mod, e_cmp, e_neg, e_ixt, e_ixl, e_at0, e_at1, e_at2, e_at3, e_eqi, e_nei, e_abs, e_int, e_intb, e_lenl, e_lent, e_tupl, e_tupt, e_can4, e_gtn, e_fori, e_fio, e_setdc, e_sdco, e_get2, e_isdk, e_geto, e_gtos, e_gton, e_newd, e_disp1, e_parok, e_parov, e_parvo, e_paroo, e_indc, e_nindc, e_max2, e_min2, e_meth0, e_me0, items_nil, items_cons, keyD_i, e_ch3, e_c3t, e_c3f, e_rgd2, e_rgv, e_rgvo, e_gsub, e_sub2, e_index, e_isl, e_lc2, bne_self_eq_false, beq_self_eq_true, Nat.reduceBEq, Nat.reduceEqDiff, List.length_cons, List.length_nil, Bool.and_true, Bool.true_and, lo1, lo2, lo3, lo4, lo5, decide_true, decide_false, fino2_r, fino_r, outo_r, outo_n, List.set_cons_zero, List.set_cons_succ, fino_n, Bool.not_true, Bool.not_false, h2])]
    rfl
  have ca := fun o2 => cw a a (sh A) (sh B) .non o2 la lba
  have cb := fun o2 => cw b b (sh C) (sh E) .non o2 lab lbb
  have r2 := repL_one (d := sh 1) (k := ((0 + 1 + 1 : Nat) : Int)) (n := 2) rfl (by decide)
  have r2 : repL (.lst [sh 1]) (.int ((0 + 1 + 1 : Nat) : Int)) = some (.lst [sh 1, sh 1]) := r2
  have ct : cutD [sh (val K b a), sh (val K a b), sh (A * val K b a + B * val K a b)] none (some (-1)) = [sh (val K b a), sh (val K a b)] := by rw [cut_last]; rfl
  have al : atI [sh (val K b a), sh (val K a b), sh (A * val K b a + B * val K a b)] (-1) = some (sh (A * val K b a + B * val K a b)) := at_last (l := [sh (val K b a), sh (val K a b)])
  unfold m_race
  simp -implicitDefEqProofs only [e_bdo, e_bdn, e_bd, e_ob, e_obn, e_grt, e_grf, e_set0, e_setS, e_can0, e_can1, e_can2, e_can3, e_canS, e_own0, e_ownS, e_iol0, e_iolS, e_gt0, e_gtS, e_var, e_rdv, e_rdo, e_c, e_drv, e_drs, e_drov, e_droo, e_tvv, e_tvs, e_tvov, e_tvoo, e_tvl0, e_tvl1, e_drl0, e_drl1, e_m2, e_m2F, e_m1, e_mT, e_tbo, e_mFr, e_nil, e_cons, e_mB, e_mBF, e_tup, e_lst, e_call, e_callF, e_callIO, e_ioo, e_and, e_andt, e_andf, e_or, e_ort, e_orf, e_not, e_noto, e_bot, e_bof, e_if, e_tand, e_tor, e_tnot, e_isi, e_seq, e_seqn, e_seqr, e_seqb, e_seqc, e_seqo, e_snil, e_sno, e_sif, e_ift, e_iff, e_set, e_setF, e_ret, e_expr, e_gvar, e_par, e_par2, e_par3o, e_par3, e_gtup, e_gcons, e_gnil, e_for, e_sq, e_sql, e_sqt, e_r1, e_rgo, e_r2, e_rgo2, e_frn, e_frv, e_fro, e_fr1, e_fr2, e_wi1, e_wi2, e_re1, e_re2, e_lc, e_lcT, e_lctt, e_lctf, e_slL, e_slo, e_oNo, e_oS, e_oso, e_cut1, e_rev, e_rvo, e_ch, e_cht, e_chf, e_six, e_sxo, e_ixs, e_lens, e_lsts, e_lstl, e_lstt, e_pow, e_eqb, e_neb, e_ntb, e_isbb, e_isn, e_non, e_gt2, e_tint_non, e_tint_bl, e_tint_int, e_tint_str, e_tint_tup, e_tint_lst, e_tint_scr, e_tbool_non, e_tbool_bl, e_tbool_int, e_tbool_str, e_tbool_tup, e_tbool_lst, e_tbool_scr, e_tstr_non, e_tstr_bl, e_tstr_int, e_tstr_str, e_tstr_tup, e_tstr_lst, e_tstr_scr, e_ttuple_non, e_ttuple_bl, e_ttuple_int, e_ttuple_str, e_ttuple_tup, e_ttuple_lst, e_ttuple_scr, e_tlist_non, e_tlist_bl, e_tlist_int, e_tlist_str, e_tlist_tup, e_tlist_lst, e_tlist_scr, e_forn, e_fcn, e_fcr, e_fcc, e_fcb, e_revT, e_rvT, e_lr, e_tr, e_rg1, e_rg2, e_rgo1, e_rg2o, e_en, e_enl, e_ent, e_zp, e_zpl, e_zpt, e_isi2, e_catT, e_catL, e_aug, e_ago, e_agn, e_meth1, e_meo, e_apd, e_dc, e_dcT, e_dctt, e_dctf, e_koi, e_kos, e_dg, e_augix, e_aug2, e_sl, e_sl2l, e_sl2t, e_repT, e_repL, e_yes, e_add, e_sub, e_mul, e_fdiv, e_mod, e_cmp, e_neg, e_ixt, e_ixl, e_at0, e_at1, e_at2, e_at3, e_eqi, e_nei, e_abs, e_int, e_intb, e_lenl, e_lent, e_tupl, e_tupt, e_can4, e_gtn, e_fori, e_fio, e_setdc, e_sdco, e_get2, e_isdk, e_geto, e_gtos, e_gton, e_newd, e_disp1, e_parok, e_parov, e_parvo, e_paroo, e_indc, e_nindc, e_max2, e_min2, e_meth0, e_me0, items_nil, items_cons, keyD_i, e_ch3, e_c3t, e_c3f, e_rgd2, e_rgv, e_rgvo, e_gsub, e_sub2, e_index, e_isl, e_lc2, bne_self_eq_false, beq_self_eq_true, Nat.reduceBEq, Nat.reduceEqDiff, List.length_cons, List.length_nil, Bool.and_true, Bool.true_and, lo1, lo2, lo3, lo4, lo5, decide_true, decide_false, fino2_r, fino_r, outo_r, outo_n, List.set_cons_zero, List.set_cons_succ, fino_n, Bool.not_true, Bool.not_false, look_words h ha hb ne, show lineOk 0 = true from rfl, e_for, e_forc, lo2, ca, cb, e_catL, o1, o0, om, show lineOk (0 + 1 + 1 + (0 + 1 + 1)) = true from rfl, List.cons_append, List.nil_append, e_apd, show decide (0 < 16777216) = true from rfl, show decide (0 + 1 < 16777216) = true from rfl, show decide (0 + 1 + 1 < 16777216) = true from rfl, r2, sv, ct, al]
/-! all words, best answers -/
def awB : SVt := (sSeq (sIf (mT (m2 (cmpI fun i j => decide (j < i)) (m2 mulI (mB lenD (lCons (mVar 2) lNil)) (mVar 0)) (mC (.int 5000)))) sNo sNil) (sSet (gVar 2) (mFr (mLc2 (iSq (mVar 2)) (gVar 4) tYes' (iRange1 (mVar 0)) (gVar 5) tYes' (m2 catT (mVar 4) (mTup (lCons (mVar 5) lNil))) [4, 5] [5]))))
theorem aw_len (K : Nat) : ∀ n, (allW K n).length = K ^ n
  | 0 => rfl
  | n + 1 => by
    have ih := aw_len K n
    unfold allW
    rw [Nat.pow_succ, ← ih]
    generalize allW K n = l
    induction l with
    | nil => simp
    | cons r l ih2 => rw [List.flatMap_cons, List.length_append, ih2, List.length_map, List.length_range, List.length_cons, Nat.succ_mul]; omega
theorem aw_step {K j : Nat} (hK : K ≤ 3) (hj : j < 5) (hs : K ^ j * K ≤ 5000) {o1 o3 : Option SV} : awB [some (.v (.int (K : Int))), o1, some (.v (.lst ((allW K j).map wd))), o3, none, none] = some (.nx [some (.v (.int (K : Int))), o1, some (.v (.lst ((allW K (j + 1)).map wd))), o3, none, none]) := by
  have al := aw_len K j
  have c : lc2L (gVar 4) tYes' (iRange1 (mVar 0)) (gVar 5) tYes' (m2 catT (mVar 4) (mTup (lCons (mVar 5) lNil))) [4, 5] [5] ((allW K j).map wd) [some (.v (.int (K : Int))), o1, some (.v (.lst ((allW K j).map wd))), o3, none, none] = some ((allW K j).flatMap (fun r => (List.range K).map fun (i : Nat) => wd (r ++ [(i : Int)])), [some (.v (.int (K : Int))), o1, some (.v (.lst ((allW K j).map wd))), o3, none, none]) :=
    lc2_map wd _ fun r hr => by
      have hr := all_mem hr
      refine ⟨[some (.v (.int (K : Int))), o1, some (.v (.lst ((allW K j).map wd))), o3, some (.v (wd r)), none], [some (.v (.int (K : Int))), o1, some (.v (.lst ((allW K j).map wd))), o3, some (.v (wd r)), none], [some (.v (.int (K : Int))), o1, some (.v (.lst ((allW K j).map wd))), o3, some (.v (wd r)), none], [some (.v (.int (K : Int))), o1, some (.v (.lst ((allW K j).map wd))), o3, some (.v (wd r)), none], rngL 0 K, by simp -implicitDefEqProofs only [e_bdo, e_bdn, e_bd, e_ob, e_obn, e_grt, e_grf, e_set0, e_setS, e_can0, e_can1, e_can2, e_can3, e_canS, e_own0, e_ownS, e_iol0, e_iolS, e_gt0, e_gtS, e_var, e_rdv, e_rdo, e_c, e_drv, e_drs, e_drov, e_droo, e_tvv, e_tvs, e_tvov, e_tvoo, e_tvl0, e_tvl1, e_drl0, e_drl1, e_m2, e_m2F, e_m1, e_mT, e_tbo, e_mFr, e_nil, e_cons, e_mB, e_mBF, e_tup, e_lst, e_call, e_callF, e_callIO, e_ioo, e_and, e_andt, e_andf, e_or, e_ort, e_orf, e_not, e_noto, e_bot, e_bof, e_if, e_tand, e_tor, e_tnot, e_isi, e_seq, e_seqn, e_seqr, e_seqb, e_seqc, e_seqo, e_snil, e_sno, e_sif, e_ift, e_iff, e_set, e_setF, e_ret, e_expr, e_gvar, e_par, e_par2, e_par3o, e_par3, e_gtup, e_gcons, e_gnil, e_for, e_sq, e_sql, e_sqt, e_r1, e_rgo, e_r2, e_rgo2, e_frn, e_frv, e_fro, e_fr1, e_fr2, e_wi1, e_wi2, e_re1, e_re2, e_lc, e_lcT, e_lctt, e_lctf, e_slL, e_slo, e_oNo, e_oS, e_oso, e_cut1, e_rev, e_rvo, e_ch, e_cht, e_chf, e_six, e_sxo, e_ixs, e_lens, e_lsts, e_lstl, e_lstt, e_pow, e_eqb, e_neb, e_ntb, e_isbb, e_isn, e_non, e_gt2, e_tint_non, e_tint_bl, e_tint_int, e_tint_str, e_tint_tup, e_tint_lst, e_tint_scr, e_tbool_non, e_tbool_bl, e_tbool_int, e_tbool_str, e_tbool_tup, e_tbool_lst, e_tbool_scr, e_tstr_non, e_tstr_bl, e_tstr_int, e_tstr_str, e_tstr_tup, e_tstr_lst, e_tstr_scr, e_ttuple_non, e_ttuple_bl, e_ttuple_int, e_ttuple_str, e_ttuple_tup, e_ttuple_lst, e_ttuple_scr, e_tlist_non, e_tlist_bl, e_tlist_int, e_tlist_str, e_tlist_tup, e_tlist_lst, e_tlist_scr, e_forn, e_fcn, e_fcr, e_fcc, e_fcb, e_revT, e_rvT, e_lr, e_tr, e_rg1, e_rg2, e_rgo1, e_rg2o, e_en, e_enl, e_ent, e_zp, e_zpl, e_zpt, e_isi2, e_catT, e_catL, e_aug, e_ago, e_agn, e_meth1, e_meo, e_apd, e_dc, e_dcT, e_dctt, e_dctf, e_koi, e_kos, e_dg, e_augix, e_aug2, e_sl, e_sl2l, e_sl2t, e_repT, e_repL, e_yes, e_add, e_sub, e_mul, e_fdiv, e_mod, e_cmp, e_neg, e_ixt, e_ixl, e_at0, e_at1, e_at2, e_at3, e_eqi, e_nei, e_abs, e_int, e_intb, e_lenl, e_lent, e_tupl, e_tupt, e_can4, e_gtn, e_fori, e_fio, e_setdc, e_sdco, e_get2, e_isdk, e_geto, e_gtos, e_gton, e_newd, e_disp1, e_parok, e_parov, e_parvo, e_paroo, e_indc, e_nindc, e_max2, e_min2, e_meth0, e_me0, items_nil, items_cons, keyD_i, e_ch3, e_c3t, e_c3f, e_rgd2, e_rgv, e_rgvo, e_gsub, e_sub2, e_index, e_isl, e_lc2, bne_self_eq_false, beq_self_eq_true, Nat.reduceBEq, Nat.reduceEqDiff, List.length_cons, List.length_nil, Bool.and_true, Bool.true_and, lo1, lo2, lo3, lo4, lo5, decide_true, decide_false, fino2_r, fino_r, outo_r, outo_n, List.set_cons_zero, List.set_cons_succ, fino_n, Bool.not_true, Bool.not_false], by simp -implicitDefEqProofs only [e_bdo, e_bdn, e_bd, e_ob, e_obn, e_grt, e_grf, e_set0, e_setS, e_can0, e_can1, e_can2, e_can3, e_canS, e_own0, e_ownS, e_iol0, e_iolS, e_gt0, e_gtS, e_var, e_rdv, e_rdo, e_c, e_drv, e_drs, e_drov, e_droo, e_tvv, e_tvs, e_tvov, e_tvoo, e_tvl0, e_tvl1, e_drl0, e_drl1, e_m2, e_m2F, e_m1, e_mT, e_tbo, e_mFr, e_nil, e_cons, e_mB, e_mBF, e_tup, e_lst, e_call, e_callF, e_callIO, e_ioo, e_and, e_andt, e_andf, e_or, e_ort, e_orf, e_not, e_noto, e_bot, e_bof, e_if, e_tand, e_tor, e_tnot, e_isi, e_seq, e_seqn, e_seqr, e_seqb, e_seqc, e_seqo, e_snil, e_sno, e_sif, e_ift, e_iff, e_set, e_setF, e_ret, e_expr, e_gvar, e_par, e_par2, e_par3o, e_par3, e_gtup, e_gcons, e_gnil, e_for, e_sq, e_sql, e_sqt, e_r1, e_rgo, e_r2, e_rgo2, e_frn, e_frv, e_fro, e_fr1, e_fr2, e_wi1, e_wi2, e_re1, e_re2, e_lc, e_lcT, e_lctt, e_lctf, e_slL, e_slo, e_oNo, e_oS, e_oso, e_cut1, e_rev, e_rvo, e_ch, e_cht, e_chf, e_six, e_sxo, e_ixs, e_lens, e_lsts, e_lstl, e_lstt, e_pow, e_eqb, e_neb, e_ntb, e_isbb, e_isn, e_non, e_gt2, e_tint_non, e_tint_bl, e_tint_int, e_tint_str, e_tint_tup, e_tint_lst, e_tint_scr, e_tbool_non, e_tbool_bl, e_tbool_int, e_tbool_str, e_tbool_tup, e_tbool_lst, e_tbool_scr, e_tstr_non, e_tstr_bl, e_tstr_int, e_tstr_str, e_tstr_tup, e_tstr_lst, e_tstr_scr, e_ttuple_non, e_ttuple_bl, e_ttuple_int, e_ttuple_str, e_ttuple_tup, e_ttuple_lst, e_ttuple_scr, e_tlist_non, e_tlist_bl, e_tlist_int, e_tlist_str, e_tlist_tup, e_tlist_lst, e_tlist_scr, e_forn, e_fcn, e_fcr, e_fcc, e_fcb, e_revT, e_rvT, e_lr, e_tr, e_rg1, e_rg2, e_rgo1, e_rg2o, e_en, e_enl, e_ent, e_zp, e_zpl, e_zpt, e_isi2, e_catT, e_catL, e_aug, e_ago, e_agn, e_meth1, e_meo, e_apd, e_dc, e_dcT, e_dctt, e_dctf, e_koi, e_kos, e_dg, e_augix, e_aug2, e_sl, e_sl2l, e_sl2t, e_repT, e_repL, e_yes, e_add, e_sub, e_mul, e_fdiv, e_mod, e_cmp, e_neg, e_ixt, e_ixl, e_at0, e_at1, e_at2, e_at3, e_eqi, e_nei, e_abs, e_int, e_intb, e_lenl, e_lent, e_tupl, e_tupt, e_can4, e_gtn, e_fori, e_fio, e_setdc, e_sdco, e_get2, e_isdk, e_geto, e_gtos, e_gton, e_newd, e_disp1, e_parok, e_parov, e_parvo, e_paroo, e_indc, e_nindc, e_max2, e_min2, e_meth0, e_me0, items_nil, items_cons, keyD_i, e_ch3, e_c3t, e_c3f, e_rgd2, e_rgv, e_rgvo, e_gsub, e_sub2, e_index, e_isl, e_lc2, bne_self_eq_false, beq_self_eq_true, Nat.reduceBEq, Nat.reduceEqDiff, List.length_cons, List.length_nil, Bool.and_true, Bool.true_and, lo1, lo2, lo3, lo4, lo5, decide_true, decide_false, fino2_r, fino_r, outo_r, outo_n, List.set_cons_zero, List.set_cons_succ, fino_n, Bool.not_true, Bool.not_false], by simp -implicitDefEqProofs only [e_bdo, e_bdn, e_bd, e_ob, e_obn, e_grt, e_grf, e_set0, e_setS, e_can0, e_can1, e_can2, e_can3, e_canS, e_own0, e_ownS, e_iol0, e_iolS, e_gt0, e_gtS, e_var, e_rdv, e_rdo, e_c, e_drv, e_drs, e_drov, e_droo, e_tvv, e_tvs, e_tvov, e_tvoo, e_tvl0, e_tvl1, e_drl0, e_drl1, e_m2, e_m2F, e_m1, e_mT, e_tbo, e_mFr, e_nil, e_cons, e_mB, e_mBF, e_tup, e_lst, e_call, e_callF, e_callIO, e_ioo, e_and, e_andt, e_andf, e_or, e_ort, e_orf, e_not, e_noto, e_bot, e_bof, e_if, e_tand, e_tor, e_tnot, e_isi, e_seq, e_seqn, e_seqr, e_seqb, e_seqc, e_seqo, e_snil, e_sno, e_sif, e_ift, e_iff, e_set, e_setF, e_ret, e_expr, e_gvar, e_par, e_par2, e_par3o, e_par3, e_gtup, e_gcons, e_gnil, e_for, e_sq, e_sql, e_sqt, e_r1, e_rgo, e_r2, e_rgo2, e_frn, e_frv, e_fro, e_fr1, e_fr2, e_wi1, e_wi2, e_re1, e_re2, e_lc, e_lcT, e_lctt, e_lctf, e_slL, e_slo, e_oNo, e_oS, e_oso, e_cut1, e_rev, e_rvo, e_ch, e_cht, e_chf, e_six, e_sxo, e_ixs, e_lens, e_lsts, e_lstl, e_lstt, e_pow, e_eqb, e_neb, e_ntb, e_isbb, e_isn, e_non, e_gt2, e_tint_non, e_tint_bl, e_tint_int, e_tint_str, e_tint_tup, e_tint_lst, e_tint_scr, e_tbool_non, e_tbool_bl, e_tbool_int, e_tbool_str, e_tbool_tup, e_tbool_lst, e_tbool_scr, e_tstr_non, e_tstr_bl, e_tstr_int, e_tstr_str, e_tstr_tup, e_tstr_lst, e_tstr_scr, e_ttuple_non, e_ttuple_bl, e_ttuple_int, e_ttuple_str, e_ttuple_tup, e_ttuple_lst, e_ttuple_scr, e_tlist_non, e_tlist_bl, e_tlist_int, e_tlist_str, e_tlist_tup, e_tlist_lst, e_tlist_scr, e_forn, e_fcn, e_fcr, e_fcc, e_fcb, e_revT, e_rvT, e_lr, e_tr, e_rg1, e_rg2, e_rgo1, e_rg2o, e_en, e_enl, e_ent, e_zp, e_zpl, e_zpt, e_isi2, e_catT, e_catL, e_aug, e_ago, e_agn, e_meth1, e_meo, e_apd, e_dc, e_dcT, e_dctt, e_dctf, e_koi, e_kos, e_dg, e_augix, e_aug2, e_sl, e_sl2l, e_sl2t, e_repT, e_repL, e_yes, e_add, e_sub, e_mul, e_fdiv, e_mod, e_cmp, e_neg, e_ixt, e_ixl, e_at0, e_at1, e_at2, e_at3, e_eqi, e_nei, e_abs, e_int, e_intb, e_lenl, e_lent, e_tupl, e_tupt, e_can4, e_gtn, e_fori, e_fio, e_setdc, e_sdco, e_get2, e_isdk, e_geto, e_gtos, e_gton, e_newd, e_disp1, e_parok, e_parov, e_parvo, e_paroo, e_indc, e_nindc, e_max2, e_min2, e_meth0, e_me0, items_nil, items_cons, keyD_i, e_ch3, e_c3t, e_c3f, e_rgd2, e_rgv, e_rgvo, e_gsub, e_sub2, e_index, e_isl, e_lc2, bne_self_eq_false, beq_self_eq_true, Nat.reduceBEq, Nat.reduceEqDiff, List.length_cons, List.length_nil, Bool.and_true, Bool.true_and, lo1, lo2, lo3, lo4, lo5, decide_true, decide_false, fino2_r, fino_r, outo_r, outo_n, List.set_cons_zero, List.set_cons_succ, fino_n, Bool.not_true, Bool.not_false, rgOk_of (show K < 2 ^ 62 by omega), Int.toNat_natCast], by simp -implicitDefEqProofs only [e_bdo, e_bdn, e_bd, e_ob, e_obn, e_grt, e_grf, e_set0, e_setS, e_can0, e_can1, e_can2, e_can3, e_canS, e_own0, e_ownS, e_iol0, e_iolS, e_gt0, e_gtS, e_var, e_rdv, e_rdo, e_c, e_drv, e_drs, e_drov, e_droo, e_tvv, e_tvs, e_tvov, e_tvoo, e_tvl0, e_tvl1, e_drl0, e_drl1, e_m2, e_m2F, e_m1, e_mT, e_tbo, e_mFr, e_nil, e_cons, e_mB, e_mBF, e_tup, e_lst, e_call, e_callF, e_callIO, e_ioo, e_and, e_andt, e_andf, e_or, e_ort, e_orf, e_not, e_noto, e_bot, e_bof, e_if, e_tand, e_tor, e_tnot, e_isi, e_seq, e_seqn, e_seqr, e_seqb, e_seqc, e_seqo, e_snil, e_sno, e_sif, e_ift, e_iff, e_set, e_setF, e_ret, e_expr, e_gvar, e_par, e_par2, e_par3o, e_par3, e_gtup, e_gcons, e_gnil, e_for, e_sq, e_sql, e_sqt, e_r1, e_rgo, e_r2, e_rgo2, e_frn, e_frv, e_fro, e_fr1, e_fr2, e_wi1, e_wi2, e_re1, e_re2, e_lc, e_lcT, e_lctt, e_lctf, e_slL, e_slo, e_oNo, e_oS, e_oso, e_cut1, e_rev, e_rvo, e_ch, e_cht, e_chf, e_six, e_sxo, e_ixs, e_lens, e_lsts, e_lstl, e_lstt, e_pow, e_eqb, e_neb, e_ntb, e_isbb, e_isn, e_non, e_gt2, e_tint_non, e_tint_bl, e_tint_int, e_tint_str, e_tint_tup, e_tint_lst, e_tint_scr, e_tbool_non, e_tbool_bl, e_tbool_int, e_tbool_str, e_tbool_tup, e_tbool_lst, e_tbool_scr, e_tstr_non, e_tstr_bl, e_tstr_int, e_tstr_str, e_tstr_tup, e_tstr_lst, e_tstr_scr, e_ttuple_non, e_ttuple_bl, e_ttuple_int, e_ttuple_str, e_ttuple_tup, e_ttuple_lst, e_ttuple_scr, e_tlist_non, e_tlist_bl, e_tlist_int, e_tlist_str, e_tlist_tup, e_tlist_lst, e_tlist_scr, e_forn, e_fcn, e_fcr, e_fcc, e_fcb, e_revT, e_rvT, e_lr, e_tr, e_rg1, e_rg2, e_rgo1, e_rg2o, e_en, e_enl, e_ent, e_zp, e_zpl, e_zpt, e_isi2, e_catT, e_catL, e_aug, e_ago, e_agn, e_meth1, e_meo, e_apd, e_dc, e_dcT, e_dctt, e_dctf, e_koi, e_kos, e_dg, e_augix, e_aug2, e_sl, e_sl2l, e_sl2t, e_repT, e_repL, e_yes, e_add, e_sub, e_mul, e_fdiv, e_mod, e_cmp, e_neg, e_ixt, e_ixl, e_at0, e_at1, e_at2, e_at3, e_eqi, e_nei, e_abs, e_int, e_intb, e_lenl, e_lent, e_tupl, e_tupt, e_can4, e_gtn, e_fori, e_fio, e_setdc, e_sdco, e_get2, e_isdk, e_geto, e_gtos, e_gton, e_newd, e_disp1, e_parok, e_parov, e_parvo, e_paroo, e_indc, e_nindc, e_max2, e_min2, e_meth0, e_me0, items_nil, items_cons, keyD_i, e_ch3, e_c3t, e_c3f, e_rgd2, e_rgv, e_rgvo, e_gsub, e_sub2, e_index, e_isl, e_lc2, bne_self_eq_false, beq_self_eq_true, Nat.reduceBEq, Nat.reduceEqDiff, List.length_cons, List.length_nil, Bool.and_true, Bool.true_and, lo1, lo2, lo3, lo4, lo5, decide_true, decide_false, fino2_r, fino_r, outo_r, outo_n, List.set_cons_zero, List.set_cons_succ, fino_n, Bool.not_true, Bool.not_false], ?_, by simp -implicitDefEqProofs only [e_bdo, e_bdn, e_bd, e_ob, e_obn, e_grt, e_grf, e_set0, e_setS, e_can0, e_can1, e_can2, e_can3, e_canS, e_own0, e_ownS, e_iol0, e_iolS, e_gt0, e_gtS, e_var, e_rdv, e_rdo, e_c, e_drv, e_drs, e_drov, e_droo, e_tvv, e_tvs, e_tvov, e_tvoo, e_tvl0, e_tvl1, e_drl0, e_drl1, e_m2, e_m2F, e_m1, e_mT, e_tbo, e_mFr, e_nil, e_cons, e_mB, e_mBF, e_tup, e_lst, e_call, e_callF, e_callIO, e_ioo, e_and, e_andt, e_andf, e_or, e_ort, e_orf, e_not, e_noto, e_bot, e_bof, e_if, e_tand, e_tor, e_tnot, e_isi, e_seq, e_seqn, e_seqr, e_seqb, e_seqc, e_seqo, e_snil, e_sno, e_sif, e_ift, e_iff, e_set, e_setF, e_ret, e_expr, e_gvar, e_par, e_par2, e_par3o, e_par3, e_gtup, e_gcons, e_gnil, e_for, e_sq, e_sql, e_sqt, e_r1, e_rgo, e_r2, e_rgo2, e_frn, e_frv, e_fro, e_fr1, e_fr2, e_wi1, e_wi2, e_re1, e_re2, e_lc, e_lcT, e_lctt, e_lctf, e_slL, e_slo, e_oNo, e_oS, e_oso, e_cut1, e_rev, e_rvo, e_ch, e_cht, e_chf, e_six, e_sxo, e_ixs, e_lens, e_lsts, e_lstl, e_lstt, e_pow, e_eqb, e_neb, e_ntb, e_isbb, e_isn, e_non, e_gt2, e_tint_non, e_tint_bl, e_tint_int, e_tint_str, e_tint_tup, e_tint_lst, e_tint_scr, e_tbool_non, e_tbool_bl, e_tbool_int, e_tbool_str, e_tbool_tup, e_tbool_lst, e_tbool_scr, e_tstr_non, e_tstr_bl, e_tstr_int, e_tstr_str, e_tstr_tup, e_tstr_lst, e_tstr_scr, e_ttuple_non, e_ttuple_bl, e_ttuple_int, e_ttuple_str, e_ttuple_tup, e_ttuple_lst, e_ttuple_scr, e_tlist_non, e_tlist_bl, e_tlist_int, e_tlist_str, e_tlist_tup, e_tlist_lst, e_tlist_scr, e_forn, e_fcn, e_fcr, e_fcc, e_fcb, e_revT, e_rvT, e_lr, e_tr, e_rg1, e_rg2, e_rgo1, e_rg2o, e_en, e_enl, e_ent, e_zp, e_zpl, e_zpt, e_isi2, e_catT, e_catL, e_aug, e_ago, e_agn, e_meth1, e_meo, e_apd, e_dc, e_dcT, e_dctt, e_dctf, e_koi, e_kos, e_dg, e_augix, e_aug2, e_sl, e_sl2l, e_sl2t, e_repT, e_repL, e_yes, e_add, e_sub, e_mul, e_fdiv, e_mod, e_cmp, e_neg, e_ixt, e_ixl, e_at0, e_at1, e_at2, e_at3, e_eqi, e_nei, e_abs, e_int, e_intb, e_lenl, e_lent, e_tupl, e_tupt, e_can4, e_gtn, e_fori, e_fio, e_setdc, e_sdco, e_get2, e_isdk, e_geto, e_gtos, e_gton, e_newd, e_disp1, e_parok, e_parov, e_parvo, e_paroo, e_indc, e_nindc, e_max2, e_min2, e_meth0, e_me0, items_nil, items_cons, keyD_i, e_ch3, e_c3t, e_c3f, e_rgd2, e_rgv, e_rgvo, e_gsub, e_sub2, e_index, e_isl, e_lc2, bne_self_eq_false, beq_self_eq_true, Nat.reduceBEq, Nat.reduceEqDiff, List.length_cons, List.length_nil, Bool.and_true, Bool.true_and, lo1, lo2, lo3, lo4, lo5, decide_true, decide_false, fino2_r, fino_r, outo_r, outo_n, List.set_cons_zero, List.set_cons_succ, fino_n, Bool.not_true, Bool.not_false]⟩
      exact lc_mapE (fun (i : Nat) => D.int (0 + (i : Int))) _ fun i hi => by
        have hl := hr.2
        unfold wd
        simp -implicitDefEqProofs only [e_bdo, e_bdn, e_bd, e_ob, e_obn, e_grt, e_grf, e_set0, e_setS, e_can0, e_can1, e_can2, e_can3, e_canS, e_own0, e_ownS, e_iol0, e_iolS, e_gt0, e_gtS, e_var, e_rdv, e_rdo, e_c, e_drv, e_drs, e_drov, e_droo, e_tvv, e_tvs, e_tvov, e_tvoo, e_tvl0, e_tvl1, e_drl0, e_drl1, e_m2, e_m2F, e_m1, e_mT, e_tbo, e_mFr, e_nil, e_cons, e_mB, e_mBF, e_tup, e_lst, e_call, e_callF, e_callIO, e_ioo, e_and, e_andt, e_andf, e_or, e_ort, e_orf, e_not, e_noto, e_bot, e_bof, e_if, e_tand, e_tor, e_tnot, e_isi, e_seq, e_seqn, e_seqr, e_seqb, e_seqc, e_seqo, e_snil, e_sno, e_sif, e_ift, e_iff, e_set, e_setF, e_ret, e_expr, e_gvar, e_par, e_par2, e_par3o, e_par3, e_gtup, e_gcons, e_gnil, e_for, e_sq, e_sql, e_sqt, e_r1, e_rgo, e_r2, e_rgo2, e_frn, e_frv, e_fro, e_fr1, e_fr2, e_wi1, e_wi2, e_re1, e_re2, e_lc, e_lcT, e_lctt, e_lctf, e_slL, e_slo, e_oNo, e_oS, e_oso, e_cut1, e_rev, e_rvo, e_ch, e_cht, e_chf, e_six, e_sxo, e_ixs, e_lens, e_lsts, e_lstl, e_lstt, e_pow, e_eqb, e_neb, e_ntb, e_isbb, e_isn, e_non, e_gt2, e_tint_non, e_tint_bl, e_tint_int, e_tint_str, e_tint_tup, e_tint_lst, e_tint_scr, e_tbool_non, e_tbool_bl, e_tbool_int, e_tbool_str, e_tbool_tup, e_tbool_lst, e_tbool_scr, e_tstr_non, e_tstr_bl, e_tstr_int, e_tstr_str, e_tstr_tup, e_tstr_lst, e_tstr_scr, e_ttuple_non, e_ttuple_bl, e_ttuple_int, e_ttuple_str, e_ttuple_tup, e_ttuple_lst, e_ttuple_scr, e_tlist_non, e_tlist_bl, e_tlist_int, e_tlist_str, e_tlist_tup, e_tlist_lst, e_tlist_scr, e_forn, e_fcn, e_fcr, e_fcc, e_fcb, e_revT, e_rvT, e_lr, e_tr, e_rg1, e_rg2, e_rgo1, e_rg2o, e_en, e_enl, e_ent, e_zp, e_zpl, e_zpt, e_isi2, e_catT, e_catL, e_aug, e_ago, e_agn, e_meth1, e_meo, e_apd, e_dc, e_dcT, e_dctt, e_dctf, e_koi, e_kos, e_dg, e_augix, e_aug2, e_sl, e_sl2l, e_sl2t, e_repT, e_repL, e_yes, e_add, e_sub, e_mul, e_fdiv, e_mod, e_cmp, e_neg, e_ixt, e_ixl, e_at0, e_at1, e_at2, e_at3, e_eqi, e_nei, e_abs, e_int, e_intb, e_lenl, e_lent, e_tupl, e_tupt, e_can4, e_gtn, e_fori, e_fio, e_setdc, e_sdco, e_get2, e_isdk, e_geto, e_gtos, e_gton, e_newd, e_disp1, e_parok, e_parov, e_parvo, e_paroo, e_indc, e_nindc, e_max2, e_min2, e_meth0, e_me0, items_nil, items_cons, keyD_i, e_ch3, e_c3t, e_c3f, e_rgd2, e_rgv, e_rgvo, e_gsub, e_sub2, e_index, e_isl, e_lc2, bne_self_eq_false, beq_self_eq_true, Nat.reduceBEq, Nat.reduceEqDiff, List.length_cons, List.length_nil, Bool.and_true, Bool.true_and, lo1, lo2, lo3, lo4, lo5, decide_true, decide_false, fino2_r, fino_r, outo_r, outo_n, List.set_cons_zero, List.set_cons_succ, fino_n, Bool.not_true, Bool.not_false, Int.zero_add, e_catT, List.length_map, show lineOk (r.length + (0 + 1)) = true from decide_eq_true (by omega), List.map_append]
        rfl
  have e : (allW K j).flatMap (fun r => (List.range K).map fun (i : Nat) => wd (r ++ [(i : Int)])) = (allW K (j + 1)).map wd := by
    show _ = List.map wd ((allW K j).flatMap fun r => (List.range K).map fun (i : Nat) => r ++ [(i : Int)])
    rw [List.map_flatMap]
    congr 1
    funext r
    rw [List.map_map]
    rfl
  have l1 : ((allW K (j + 1)).map wd).length ≤ 16777216 := by rw [List.length_map, aw_len, Nat.pow_succ]; omega
  rw [e] at c
  have mo : mulOk ((K ^ j : Nat) : Int) (K : Int) = true := by
    by_cases k0 : K = 0
    · subst k0; exact mulOk_of (m := 30) (n := 30) (by
        have : 0 ^ j ≤ 1 := by cases j <;> simp
        omega) (by decide) (by decide)
    · have : K ^ j ≤ K ^ j * K := Nat.le_mul_of_pos_right _ (by omega)
      exact mulOk_of (m := 30) (n := 30) (by omega) (by omega) (by decide)
  have cm : ((K ^ j : Nat) : Int) * (K : Int) = ((K ^ j * K : Nat) : Int) := by rw [Int.natCast_mul]
  unfold awB
  simp -implicitDefEqProofs only [e_bdo, e_bdn, e_bd, e_ob, e_obn, e_grt, e_grf, e_set0, e_setS, e_can0, e_can1, e_can2, e_can3, e_canS, e_own0, e_ownS, e_iol0, e_iolS, e_gt0, e_gtS, e_var, e_rdv, e_rdo, e_c, e_drv, e_drs, e_drov, e_droo, e_tvv, e_tvs, e_tvov, e_tvoo, e_tvl0, e_tvl1, e_drl0, e_drl1, e_m2, e_m2F, e_m1, e_mT, e_tbo, e_mFr, e_nil, e_cons, e_mB, e_mBF, e_tup, e_lst, e_call, e_callF, e_callIO, e_ioo, e_and, e_andt, e_andf, e_or, e_ort, e_orf, e_not, e_noto, e_bot, e_bof, e_if, e_tand, e_tor, e_tnot, e_isi, e_seq, e_seqn, e_seqr, e_seqb, e_seqc, e_seqo, e_snil, e_sno, e_sif, e_ift, e_iff, e_set, e_setF, e_ret, e_expr, e_gvar, e_par, e_par2, e_par3o, e_par3, e_gtup, e_gcons, e_gnil, e_for, e_sq, e_sql, e_sqt, e_r1, e_rgo, e_r2, e_rgo2, e_frn, e_frv, e_fro, e_fr1, e_fr2, e_wi1, e_wi2, e_re1, e_re2, e_lc, e_lcT, e_lctt, e_lctf, e_slL, e_slo, e_oNo, e_oS, e_oso, e_cut1, e_rev, e_rvo, e_ch, e_cht, e_chf, e_six, e_sxo, e_ixs, e_lens, e_lsts, e_lstl, e_lstt, e_pow, e_eqb, e_neb, e_ntb, e_isbb, e_isn, e_non, e_gt2, e_tint_non, e_tint_bl, e_tint_int, e_tint_str, e_tint_tup, e_tint_lst, e_tint_scr, e_tbool_non, e_tbool_bl, e_tbool_int, e_tbool_str, e_tbool_tup, e_tbool_lst, e_tbool_scr, e_tstr_non, e_tstr_bl, e_tstr_int, e_tstr_str, e_tstr_tup, e_tstr_lst, e_tstr_scr, e_ttuple_non, e_ttuple_bl, e_ttuple_int, e_ttuple_str, e_ttuple_tup, e_ttuple_lst, e_ttuple_scr, e_tlist_non, e_tlist_bl, e_tlist_int, e_tlist_str, e_tlist_tup, e_tlist_lst, e_tlist_scr, e_forn, e_fcn, e_fcr, e_fcc, e_fcb, e_revT, e_rvT, e_lr, e_tr, e_rg1, e_rg2, e_rgo1, e_rg2o, e_en, e_enl, e_ent, e_zp, e_zpl, e_zpt, e_isi2, e_catT, e_catL, e_aug, e_ago, e_agn, e_meth1, e_meo, e_apd, e_dc, e_dcT, e_dctt, e_dctf, e_koi, e_kos, e_dg, e_augix, e_aug2, e_sl, e_sl2l, e_sl2t, e_repT, e_repL, e_yes, e_add, e_sub, e_mul, e_fdiv, e_mod, e_cmp, e_neg, e_ixt, e_ixl, e_at0, e_at1, e_at2, e_at3, e_eqi, e_nei, e_abs, e_int, e_intb, e_lenl, e_lent, e_tupl, e_tupt, e_can4, e_gtn, e_fori, e_fio, e_setdc, e_sdco, e_get2, e_isdk, e_geto, e_gtos, e_gton, e_newd, e_disp1, e_parok, e_parov, e_parvo, e_paroo, e_indc, e_nindc, e_max2, e_min2, e_meth0, e_me0, items_nil, items_cons, keyD_i, e_ch3, e_c3t, e_c3f, e_rgd2, e_rgv, e_rgvo, e_gsub, e_sub2, e_index, e_isl, e_lc2, bne_self_eq_false, beq_self_eq_true, Nat.reduceBEq, Nat.reduceEqDiff, List.length_cons, List.length_nil, Bool.and_true, Bool.true_and, lo1, lo2, lo3, lo4, lo5, decide_true, decide_false, fino2_r, fino_r, outo_r, outo_n, List.set_cons_zero, List.set_cons_succ, fino_n, Bool.not_true, Bool.not_false, List.length_map, al, mo, cm, decide_eq_false (show ¬ (5000 : Int) < ((K ^ j * K : Nat) : Int) by omega), show lineOk (K ^ j) = true from decide_eq_true (by
    by_cases k0 : K = 0
    · subst k0
      have : 0 ^ j ≤ 1 := by cases j <;> simp
      omega
    · have : K ^ j ≤ K ^ j * K := Nat.le_mul_of_pos_right _ (by omega)
      omega), c, aw_len, show lineOk (K ^ (j + 1)) = true from decide_eq_true (by rw [Nat.pow_succ]; omega)]
theorem pow_small {K n j : Nat} (h : KN K n) (hj : j < n) : K ^ j * K ≤ 5000 := by
  rw [← Nat.pow_succ]
  rcases h with ⟨rfl, h1, h2⟩ | ⟨rfl, h1, h2⟩
  · have := Nat.pow_le_pow_right (show 0 < 2 by decide) (show j + 1 ≤ 5 by omega)
    show 2 ^ (j + 1) ≤ 5000
    omega
  · have := Nat.pow_le_pow_right (show 0 < 3 by decide) (show j + 1 ≤ 3 by omega)
    show 3 ^ (j + 1) ≤ 5000
    omega
theorem aw_loop {K n : Nat} (h : KN K n) {o1 : Option SV} : ∀ (ds : List D) (j : Nat) (x3 : Option D), j + ds.length = n → ∃ y3, forL (gVar 3) awB ds [some (.v (.int (K : Int))), o1, some (.v (.lst ((allW K j).map wd))), ov x3, none, none] = some (.nx [some (.v (.int (K : Int))), o1, some (.v (.lst ((allW K n).map wd))), ov y3, none, none])
  | [], j, x3, e => by
    have : j = n := by simpa using e
    subst this
    exact ⟨x3, rfl⟩
  | d :: ds, j, x3, e => by
    rw [List.length_cons] at e
    have n5 := h.n5
    obtain ⟨y3, ih⟩ := aw_loop h (o1 := o1) ds (j + 1) (some d) (by omega)
    refine ⟨y3, ?_⟩
    have k3 : K ≤ 3 := by rcases h.k with rfl | rfl <;> omega
    rw [for_cons (ρ1 := [some (.v (.int (K : Int))), o1, some (.v (.lst ((allW K j).map wd))), some (.v d), none, none]) (by simp -implicitDefEqProofs only [e_bdo, e_bdn, e_bd, e_ob, e_obn, e_grt, e_grf, e_set0, e_setS, e_can0, e_can1, e_can2, e_can3, e_canS, e_own0, e_ownS, e_iol0, e_iolS, e_gt0, e_gtS, e_var, e_rdv, e_rdo, e_c, e_drv, e_drs, e_drov, e_droo, e_tvv, e_tvs, e_tvov, e_tvoo, e_tvl0, e_tvl1, e_drl0, e_drl1, e_m2, e_m2F, e_m1, e_mT, e_tbo, e_mFr, e_nil, e_cons, e_mB, e_mBF, e_tup, e_lst, e_call, e_callF, e_callIO, e_ioo, e_and, e_andt, e_andf, e_or, e_ort, e_orf, e_not, e_noto, e_bot, e_bof, e_if, e_tand, e_tor, e_tnot, e_isi, e_seq, e_seqn, e_seqr, e_seqb, e_seqc, e_seqo, e_snil, e_sno, e_sif, e_ift, e_iff, e_set, e_setF, e_ret, e_expr, e_gvar, e_par, e_par2, e_par3o, e_par3, e_gtup, e_gcons, e_gnil, e_for, e_sq, e_sql, e_sqt, e_r1, e_rgo, e_r2, e_rgo2, e_frn, e_frv, e_fro, e_fr1, e_fr2, e_wi1, e_wi2, e_re1, e_re2, e_lc, e_lcT, e_lctt, e_lctf, e_slL, e_slo, e_oNo, e_oS, e_oso, e_cut1, e_rev, e_rvo, e_ch, e_cht, e_chf, e_six, e_sxo, e_ixs, e_lens, e_lsts, e_lstl, e_lstt, e_pow, e_eqb, e_neb, e_ntb, e_isbb, e_isn, e_non, e_gt2, e_tint_non, e_tint_bl, e_tint_int, e_tint_str, e_tint_tup, e_tint_lst, e_tint_scr, e_tbool_non, e_tbool_bl, e_tbool_int, e_tbool_str, e_tbool_tup, e_tbool_lst, e_tbool_scr, e_tstr_non, e_tstr_bl, e_tstr_int, e_tstr_str, e_tstr_tup, e_tstr_lst, e_tstr_scr, e_ttuple_non, e_ttuple_bl, e_ttuple_int, e_ttuple_str, e_ttuple_tup, e_ttuple_lst, e_ttuple_scr, e_tlist_non, e_tlist_bl, e_tlist_int, e_tlist_str, e_tlist_tup, e_tlist_lst, e_tlist_scr, e_forn, e_fcn, e_fcr, e_fcc, e_fcb, e_revT, e_rvT, e_lr, e_tr, e_rg1, e_rg2, e_rgo1, e_rg2o, e_en, e_enl, e_ent, e_zp, e_zpl, e_zpt, e_isi2, e_catT, e_catL, e_aug, e_ago, e_agn, e_meth1, e_meo, e_apd, e_dc, e_dcT, e_dctt, e_dctf, e_koi, e_kos, e_dg, e_augix, e_aug2, e_sl, e_sl2l, e_sl2t, e_repT, e_repL, e_yes, e_add, e_sub, e_mul, e_fdiv, e_mod, e_cmp, e_neg, e_ixt, e_ixl, e_at0, e_at1, e_at2, e_at3, e_eqi, e_nei, e_abs, e_int, e_intb, e_lenl, e_lent, e_tupl, e_tupt, e_can4, e_gtn, e_fori, e_fio, e_setdc, e_sdco, e_get2, e_isdk, e_geto, e_gtos, e_gton, e_newd, e_disp1, e_parok, e_parov, e_parvo, e_paroo, e_indc, e_nindc, e_max2, e_min2, e_meth0, e_me0, items_nil, items_cons, keyD_i, e_ch3, e_c3t, e_c3f, e_rgd2, e_rgv, e_rgvo, e_gsub, e_sub2, e_index, e_isl, e_lc2, bne_self_eq_false, beq_self_eq_true, Nat.reduceBEq, Nat.reduceEqDiff, List.length_cons, List.length_nil, Bool.and_true, Bool.true_and, lo1, lo2, lo3, lo4, lo5, decide_true, decide_false, fino2_r, fino_r, outo_r, outo_n, List.set_cons_zero, List.set_cons_succ, fino_n, Bool.not_true, Bool.not_false]) (aw_step k3 (by omega) (pow_small h (by omega)))]
    exact ih
theorem all_words_eq {K n : Nat} (h : KN K n) : den_all_words [.int (K : Int), .int (n : Int)] = some (.lst ((allW K n).map wd)) := by
  rw [den_all_words, den_of]
  show fino (m_all_words [some (.v (.int (K : Int))), some (.v (.int (n : Int))), none, none, none, none]) = _
  have n5 := h.n5
  obtain ⟨y3, e⟩ := aw_loop h (o1 := some (.v (.int (n : Int)))) (rngL 0 n) 0 none (by rw [rng_len]; omega)
  have e : forL (gVar 3) awB (rngL 0 n) [some (.v (.int (K : Int))), some (.v (.int (n : Int))), some (.v (.lst [.tup []])), none, none, none] = _ := e
  have hm' : ∀ ρ, m_all_words ρ = (sSeq (sSet (gVar 2) (mFr (mLst (lCons (mTup lNil) lNil)))) (sSeq (sFor (iRange1 (mVar 1)) (gVar 3) awB) (sRet (mVar 2)))) ρ := fun ρ => rfl
  rw [hm']
  simp -implicitDefEqProofs only [e_bdo, e_bdn, e_bd, e_ob, e_obn, e_grt, e_grf, e_set0, e_setS, e_can0, e_can1, e_can2, e_can3, e_canS, e_own0, e_ownS, e_iol0, e_iolS, e_gt0, e_gtS, e_var, e_rdv, e_rdo, e_c, e_drv, e_drs, e_drov, e_droo, e_tvv, e_tvs, e_tvov, e_tvoo, e_tvl0, e_tvl1, e_drl0, e_drl1, e_m2, e_m2F, e_m1, e_mT, e_tbo, e_mFr, e_nil, e_cons, e_mB, e_mBF, e_tup, e_lst, e_call, e_callF, e_callIO, e_ioo, e_and, e_andt, e_andf, e_or, e_ort, e_orf, e_not, e_noto, e_bot, e_bof, e_if, e_tand, e_tor, e_tnot, e_isi, e_seq, e_seqn, e_seqr, e_seqb, e_seqc, e_seqo, e_snil, e_sno, e_sif, e_ift, e_iff, e_set, e_setF, e_ret, e_expr, e_gvar, e_par, e_par2, e_par3o, e_par3, e_gtup, e_gcons, e_gnil, e_for, e_sq, e_sql, e_sqt, e_r1, e_rgo, e_r2, e_rgo2, e_frn, e_frv, e_fro, e_fr1, e_fr2, e_wi1, e_wi2, e_re1, e_re2, e_lc, e_lcT, e_lctt, e_lctf, e_slL, e_slo, e_oNo, e_oS, e_oso, e_cut1, e_rev, e_rvo, e_ch, e_cht, e_chf, e_six, e_sxo, e_ixs, e_lens, e_lsts, e_lstl, e_lstt, e_pow, e_eqb, e_neb, e_ntb, e_isbb, e_isn, e_non, e_gt2, e_tint_non, e_tint_bl, e_tint_int, e_tint_str, e_tint_tup, e_tint_lst, e_tint_scr, e_tbool_non, e_tbool_bl, e_tbool_int, e_tbool_str, e_tbool_tup, e_tbool_lst, e_tbool_scr, e_tstr_non, e_tstr_bl, e_tstr_int, e_tstr_str, e_tstr_tup, e_tstr_lst, e_tstr_scr, e_ttuple_non, e_ttuple_bl, e_ttuple_int, e_ttuple_str, e_ttuple_tup, e_ttuple_lst, e_ttuple_scr, e_tlist_non, e_tlist_bl, e_tlist_int, e_tlist_str, e_tlist_tup, e_tlist_lst, e_tlist_scr, e_forn, e_fcn, e_fcr, e_fcc, e_fcb, e_revT, e_rvT, e_lr, e_tr, e_rg1, e_rg2, e_rgo1, e_rg2o, e_en, e_enl, e_ent, e_zp, e_zpl, e_zpt, e_isi2, e_catT, e_catL, e_aug, e_ago, e_agn, e_meth1, e_meo, e_apd, e_dc, e_dcT, e_dctt, e_dctf, e_koi, e_kos, e_dg, e_augix, e_aug2, e_sl, e_sl2l, e_sl2t, e_repT, e_repL, e_yes, e_add, e_sub, e_mul, e_fdiv, e_mod, e_cmp, e_neg, e_ixt, e_ixl, e_at0, e_at1, e_at2, e_at3, e_eqi, e_nei, e_abs, e_int, e_intb, e_lenl, e_lent, e_tupl, e_tupt, e_can4, e_gtn, e_fori, e_fio, e_setdc, e_sdco, e_get2, e_isdk, e_geto, e_gtos, e_gton, e_newd, e_disp1, e_parok, e_parov, e_parvo, e_paroo, e_indc, e_nindc, e_max2, e_min2, e_meth0, e_me0, items_nil, items_cons, keyD_i, e_ch3, e_c3t, e_c3f, e_rgd2, e_rgv, e_rgvo, e_gsub, e_sub2, e_index, e_isl, e_lc2, bne_self_eq_false, beq_self_eq_true, Nat.reduceBEq, Nat.reduceEqDiff, List.length_cons, List.length_nil, Bool.and_true, Bool.true_and, lo1, lo2, lo3, lo4, lo5, decide_true, decide_false, fino2_r, fino_r, outo_r, outo_n, List.set_cons_zero, List.set_cons_succ, fino_n, Bool.not_true, Bool.not_false, show lineOk 0 = true from rfl, e_for, rgOk_of (show n < 2 ^ 62 by omega), Int.toNat_natCast, e]
def bstep (K : Nat) (w : List Int) (acc : Option (List Int × Rat)) (o : List Int) : Option (List Int × Rat) := if o = w then acc else match acc with
  | none => some (o, val K w o)
  | some (b, q) => if q < val K w o then some (o, val K w o) else some (b, q)
def best (K n : Nat) (w : List Int) : Option (List Int × Rat) := (allW K n).foldl (bstep K w) none
def bD : Option (List Int × Rat) → D
  | none => .non
  | some (b, q) => .tup [wd b, sh q]
theorem fold_spec (K : Nat) (w : List Int) : ∀ (l : List (List Int)) (acc : Option (List Int × Rat)) (b : List Int) (q : Rat), l.foldl (bstep K w) acc = some (b, q) → ((b ∈ l ∧ b ≠ w ∧ q = val K w b) ∨ acc = some (b, q)) ∧ (∀ o ∈ l, o ≠ w → ¬ q < val K w o) ∧ (∀ b' q', acc = some (b', q') → ¬ q < q')
  | [], acc, b, q, h => by
    have h : acc = some (b, q) := h
    refine ⟨.inr h, fun o ho => (nomatch ho), fun b' q' e => ?_⟩
    rw [h] at e
    cases e
    grind
  | o :: l, acc, b, q, h => by
    rw [List.foldl_cons] at h
    obtain ⟨h1, h2, h3⟩ := fold_spec K w l (bstep K w acc o) b q h
    unfold bstep at h1 h3
    by_cases e : o = w
    · rw [if_pos e] at h1 h3
      refine ⟨h1.imp (fun z => ⟨List.mem_cons_of_mem _ z.1, z.2⟩) id, fun x hx hn => ?_, h3⟩
      rcases List.mem_cons.mp hx with rfl | hx
      · exact absurd e hn
      · exact h2 x hx hn
    · rw [if_neg e] at h1 h3
      cases acc with
      | none =>
        have h1 : _ ∨ some (o, val K w o) = some (b, q) := h1
        have h3' := h3 o (val K w o) rfl
        refine ⟨?_, fun x hx hn => ?_, fun b' q' e => by cases e⟩
        · rcases h1 with z | z
          · exact .inl ⟨List.mem_cons_of_mem _ z.1, z.2⟩
          · cases z; exact .inl ⟨List.mem_cons_self, e, rfl⟩
        · rcases List.mem_cons.mp hx with rfl | hx
          · exact h3'
          · exact h2 x hx hn
      | some p =>
        obtain ⟨b0, q0⟩ := p
        simp only at h1 h3
        by_cases lt : q0 < val K w o
        · rw [if_pos lt] at h1 h3
          have h3' := h3 o (val K w o) rfl
          refine ⟨?_, fun x hx hn => ?_, fun b' q' e2 => ?_⟩
          · rcases h1 with z | z
            · exact .inl ⟨List.mem_cons_of_mem _ z.1, z.2⟩
            · cases z; exact .inl ⟨List.mem_cons_self, e, rfl⟩
          · rcases List.mem_cons.mp hx with rfl | hx
            · exact h3'
            · exact h2 x hx hn
          · cases e2; grind
        · rw [if_neg lt] at h1 h3
          have h3' := h3 b0 q0 rfl
          refine ⟨?_, fun x hx hn => ?_, fun b' q' e2 => by cases e2; exact h3'⟩
          · rcases h1 with z | z
            · exact .inl ⟨List.mem_cons_of_mem _ z.1, z.2⟩
            · exact .inr z
          · rcases List.mem_cons.mp hx with rfl | hx
            · grind
            · exact h2 x hx hn
theorem fold_some (K : Nat) (w : List Int) : ∀ (l : List (List Int)) (acc : Option (List Int × Rat)), ((∃ o ∈ l, o ≠ w) ∨ acc.isSome = true) → (l.foldl (bstep K w) acc).isSome = true
  | [], acc, h => by
    rcases h with ⟨o, ho, _⟩ | h
    · cases ho
    · exact h
  | o :: l, acc, h => by
    rw [List.foldl_cons]
    refine fold_some K w l _ ?_
    have key : o ≠ w ∨ acc.isSome = true → (bstep K w acc o).isSome = true := fun z => by
      unfold bstep
      by_cases e : o = w
      · rw [if_pos e]; exact z.resolve_left (fun q => q e)
      · rw [if_neg e]
        cases acc with
        | none => rfl
        | some p => obtain ⟨b0, q0⟩ := p; simp only; split <;> rfl
    rcases h with ⟨x, hx, hn⟩ | h
    · rcases List.mem_cons.mp hx with rfl | hx
      · exact .inr (key (.inl hn))
      · exact .inl ⟨x, hx, hn⟩
    · exact .inr (key (.inr h))
theorem best_ok {K n : Nat} (h : KN K n) {w : List Int} (hw : Wn K n w) : ∃ b, best K n w = some (b, val K w b) ∧ Wn K n b ∧ b ≠ w ∧ ∀ o, Wn K n o → o ≠ w → ¬ val K w b < val K w o := by
  have n5 := h.n5
  have k2 : 2 ≤ K := by rcases h.k with rfl | rfl <;> omega
  have ex : ∃ o ∈ allW K n, o ≠ w := by
    have m0 : Wn K n (List.replicate n 0) := ⟨fun x hx => by rw [List.eq_of_mem_replicate hx]; omega, List.length_replicate⟩
    have m1 : Wn K n (List.replicate n 1) := ⟨fun x hx => by rw [List.eq_of_mem_replicate hx]; omega, List.length_replicate⟩
    by_cases e : List.replicate n (0 : Int) = w
    · refine ⟨_, mem_all m1, fun e2 => ?_⟩
      rw [← e] at e2
      have : (List.replicate n (1 : Int)).head? = (List.replicate n (0 : Int)).head? := by rw [e2]
      obtain ⟨k, rfl⟩ : ∃ k, n = k + 1 := ⟨n - 1, by omega⟩
      simp [List.replicate_succ] at this
    · exact ⟨_, mem_all m0, e⟩
  have sm := fold_some K w (allW K n) none (.inl ex)
  obtain ⟨⟨b, q⟩, hb⟩ := Option.isSome_iff_exists.mp sm
  obtain ⟨h1, h2, _⟩ := fold_spec K w (allW K n) none b q hb
  rcases h1 with ⟨z1, z2, z3⟩ | z
  · subst z3
    exact ⟨b, hb, all_mem z1, z2, fun o ho hn => h2 o (mem_all ho) hn⟩
  · cases z
theorem val_sz {K n : Nat} (h : KN K n) {w o : List Int} (hw : Wn K n w) (ho : Wn K n o) (ne : o ≠ w) : Sz 60 (val K w o) := by
  have b1 := on_bd h ho hw
  have b2 := on_bd h hw ho
  have p1 := on_pos h ho hw ne
  have p2 := on_pos h hw ho (Ne.symm ne)
  exact Sz.div (by omega) (by omega) (by omega)
def baB : SVt := (sIf (mT (m2 neD (mVar 3) (mVar 1))) (sSeq (sSet (gVar 4) (m2 ixD (mCall den_odds (lCons (mVar 0) (lCons (mVar 3) (lCons (mVar 1) lNil)))) (mC (.int 0)))) (sIf (tOr' (mT (m2 isN (mVar 2) (mC .non))) (mT (mCall den_is_less (lCons (m2 ixD (mVar 2) (mC (.int 1))) (lCons (mVar 4) lNil))))) (sSet (gVar 2) (mTup (lCons (mVar 3) (lCons (mVar 4) lNil)))) sNil)) sNil)
theorem ba_step {K n : Nat} (h : KN K n) {w o : List Int} (hw : Wn K n w) (ho : Wn K n o) {acc : Option (List Int × Rat)} (ha : ∀ b q, acc = some (b, q) → Sz 60 q) {x4 : Option D} : ∃ y4, baB [some (.v (.int (K : Int))), some (.v (wd w)), some (.v (bD acc)), some (.v (wd o)), ov x4] = some (.nx [some (.v (.int (K : Int))), some (.v (wd w)), some (.v (bD (bstep K w acc o))), some (.v (wd o)), ov y4]) := by
  unfold baB bstep
  by_cases e : o = w
  · rw [if_pos e]
    refine ⟨x4, ?_⟩
    unfold wd
    simp -implicitDefEqProofs only [e_bdo, e_bdn, e_bd, e_ob, e_obn, e_grt, e_grf, e_set0, e_setS, e_can0, e_can1, e_can2, e_can3, e_canS, e_own0, e_ownS, e_iol0, e_iolS, e_gt0, e_gtS, e_var, e_rdv, e_rdo, e_c, e_drv, e_drs, e_drov, e_droo, e_tvv, e_tvs, e_tvov, e_tvoo, e_tvl0, e_tvl1, e_drl0, e_drl1, e_m2, e_m2F, e_m1, e_mT, e_tbo, e_mFr, e_nil, e_cons, e_mB, e_mBF, e_tup, e_lst, e_call, e_callF, e_callIO, e_ioo, e_and, e_andt, e_andf, e_or, e_ort, e_orf, e_not, e_noto, e_bot, e_bof, e_if, e_tand, e_tor, e_tnot, e_isi, e_seq, e_seqn, e_seqr, e_seqb, e_seqc, e_seqo, e_snil, e_sno, e_sif, e_ift, e_iff, e_set, e_setF, e_ret, e_expr, e_gvar, e_par, e_par2, e_par3o, e_par3, e_gtup, e_gcons, e_gnil, e_for, e_sq, e_sql, e_sqt, e_r1, e_rgo, e_r2, e_rgo2, e_frn, e_frv, e_fro, e_fr1, e_fr2, e_wi1, e_wi2, e_re1, e_re2, e_lc, e_lcT, e_lctt, e_lctf, e_slL, e_slo, e_oNo, e_oS, e_oso, e_cut1, e_rev, e_rvo, e_ch, e_cht, e_chf, e_six, e_sxo, e_ixs, e_lens, e_lsts, e_lstl, e_lstt, e_pow, e_eqb, e_neb, e_ntb, e_isbb, e_isn, e_non, e_gt2, e_tint_non, e_tint_bl, e_tint_int, e_tint_str, e_tint_tup, e_tint_lst, e_tint_scr, e_tbool_non, e_tbool_bl, e_tbool_int, e_tbool_str, e_tbool_tup, e_tbool_lst, e_tbool_scr, e_tstr_non, e_tstr_bl, e_tstr_int, e_tstr_str, e_tstr_tup, e_tstr_lst, e_tstr_scr, e_ttuple_non, e_ttuple_bl, e_ttuple_int, e_ttuple_str, e_ttuple_tup, e_ttuple_lst, e_ttuple_scr, e_tlist_non, e_tlist_bl, e_tlist_int, e_tlist_str, e_tlist_tup, e_tlist_lst, e_tlist_scr, e_forn, e_fcn, e_fcr, e_fcc, e_fcb, e_revT, e_rvT, e_lr, e_tr, e_rg1, e_rg2, e_rgo1, e_rg2o, e_en, e_enl, e_ent, e_zp, e_zpl, e_zpt, e_isi2, e_catT, e_catL, e_aug, e_ago, e_agn, e_meth1, e_meo, e_apd, e_dc, e_dcT, e_dctt, e_dctf, e_koi, e_kos, e_dg, e_augix, e_aug2, e_sl, e_sl2l, e_sl2t, e_repT, e_repL, e_yes, e_add, e_sub, e_mul, e_fdiv, e_mod, e_cmp, e_neg, e_ixt, e_ixl, e_at0, e_at1, e_at2, e_at3, e_eqi, e_nei, e_abs, e_int, e_intb, e_lenl, e_lent, e_tupl, e_tupt, e_can4, e_gtn, e_fori, e_fio, e_setdc, e_sdco, e_get2, e_isdk, e_geto, e_gtos, e_gton, e_newd, e_disp1, e_parok, e_parov, e_parvo, e_paroo, e_indc, e_nindc, e_max2, e_min2, e_meth0, e_me0, items_nil, items_cons, keyD_i, e_ch3, e_c3t, e_c3f, e_rgd2, e_rgv, e_rgvo, e_gsub, e_sub2, e_index, e_isl, e_lc2, bne_self_eq_false, beq_self_eq_true, Nat.reduceBEq, Nat.reduceEqDiff, List.length_cons, List.length_nil, Bool.and_true, Bool.true_and, lo1, lo2, lo3, lo4, lo5, decide_true, decide_false, fino2_r, fino_r, outo_r, outo_n, List.set_cons_zero, List.set_cons_succ, fino_n, Bool.not_true, Bool.not_false, ne_tup_ints, decide_eq_true e]
  · rw [if_neg e]
    have oe := odds_eq h ho hw e
    have sv := val_sz h hw ho e
    refine ⟨some (sh (val K w o)), ?_⟩
    have nq : neD (wd o) (wd w) = some (.bl true) := by
      unfold wd
      rw [ne_tup_ints, decide_eq_false e]
      rfl
    cases acc with
    | none =>
      simp -implicitDefEqProofs only [e_bdo, e_bdn, e_bd, e_ob, e_obn, e_grt, e_grf, e_set0, e_setS, e_can0, e_can1, e_can2, e_can3, e_canS, e_own0, e_ownS, e_iol0, e_iolS, e_gt0, e_gtS, e_var, e_rdv, e_rdo, e_c, e_drv, e_drs, e_drov, e_droo, e_tvv, e_tvs, e_tvov, e_tvoo, e_tvl0, e_tvl1, e_drl0, e_drl1, e_m2, e_m2F, e_m1, e_mT, e_tbo, e_mFr, e_nil, e_cons, e_mB, e_mBF, e_tup, e_lst, e_call, e_callF, e_callIO, e_ioo, e_and, e_andt, e_andf, e_or, e_ort, e_orf, e_not, e_noto, e_bot, e_bof, e_if, e_tand, e_tor, e_tnot, e_isi, e_seq, e_seqn, e_seqr, e_seqb, e_seqc, e_seqo, e_snil, e_sno, e_sif, e_ift, e_iff, e_set, e_setF, e_ret, e_expr, e_gvar, e_par, e_par2, e_par3o, e_par3, e_gtup, e_gcons, e_gnil, e_for, e_sq, e_sql, e_sqt, e_r1, e_rgo, e_r2, e_rgo2, e_frn, e_frv, e_fro, e_fr1, e_fr2, e_wi1, e_wi2, e_re1, e_re2, e_lc, e_lcT, e_lctt, e_lctf, e_slL, e_slo, e_oNo, e_oS, e_oso, e_cut1, e_rev, e_rvo, e_ch, e_cht, e_chf, e_six, e_sxo, e_ixs, e_lens, e_lsts, e_lstl, e_lstt, e_pow, e_eqb, e_neb, e_ntb, e_isbb, e_isn, e_non, e_gt2, e_tint_non, e_tint_bl, e_tint_int, e_tint_str, e_tint_tup, e_tint_lst, e_tint_scr, e_tbool_non, e_tbool_bl, e_tbool_int, e_tbool_str, e_tbool_tup, e_tbool_lst, e_tbool_scr, e_tstr_non, e_tstr_bl, e_tstr_int, e_tstr_str, e_tstr_tup, e_tstr_lst, e_tstr_scr, e_ttuple_non, e_ttuple_bl, e_ttuple_int, e_ttuple_str, e_ttuple_tup, e_ttuple_lst, e_ttuple_scr, e_tlist_non, e_tlist_bl, e_tlist_int, e_tlist_str, e_tlist_tup, e_tlist_lst, e_tlist_scr, e_forn, e_fcn, e_fcr, e_fcc, e_fcb, e_revT, e_rvT, e_lr, e_tr, e_rg1, e_rg2, e_rgo1, e_rg2o, e_en, e_enl, e_ent, e_zp, e_zpl, e_zpt, e_isi2, e_catT, e_catL, e_aug, e_ago, e_agn, e_meth1, e_meo, e_apd, e_dc, e_dcT, e_dctt, e_dctf, e_koi, e_kos, e_dg, e_augix, e_aug2, e_sl, e_sl2l, e_sl2t, e_repT, e_repL, e_yes, e_add, e_sub, e_mul, e_fdiv, e_mod, e_cmp, e_neg, e_ixt, e_ixl, e_at0, e_at1, e_at2, e_at3, e_eqi, e_nei, e_abs, e_int, e_intb, e_lenl, e_lent, e_tupl, e_tupt, e_can4, e_gtn, e_fori, e_fio, e_setdc, e_sdco, e_get2, e_isdk, e_geto, e_gtos, e_gton, e_newd, e_disp1, e_parok, e_parov, e_parvo, e_paroo, e_indc, e_nindc, e_max2, e_min2, e_meth0, e_me0, items_nil, items_cons, keyD_i, e_ch3, e_c3t, e_c3f, e_rgd2, e_rgv, e_rgvo, e_gsub, e_sub2, e_index, e_isl, e_lc2, bne_self_eq_false, beq_self_eq_true, Nat.reduceBEq, Nat.reduceEqDiff, List.length_cons, List.length_nil, Bool.and_true, Bool.true_and, lo1, lo2, lo3, lo4, lo5, decide_true, decide_false, fino2_r, fino_r, outo_r, outo_n, List.set_cons_zero, List.set_cons_succ, fino_n, Bool.not_true, Bool.not_false, nq, oe, bD, DL.isNon]
      rfl
    | some p =>
      obtain ⟨b0, q0⟩ := p
      have il := is_less_eq (ha b0 q0 rfl) sv (by omega)
      simp only
      by_cases lt : q0 < val K w o
      · rw [if_pos lt]
        simp -implicitDefEqProofs only [e_bdo, e_bdn, e_bd, e_ob, e_obn, e_grt, e_grf, e_set0, e_setS, e_can0, e_can1, e_can2, e_can3, e_canS, e_own0, e_ownS, e_iol0, e_iolS, e_gt0, e_gtS, e_var, e_rdv, e_rdo, e_c, e_drv, e_drs, e_drov, e_droo, e_tvv, e_tvs, e_tvov, e_tvoo, e_tvl0, e_tvl1, e_drl0, e_drl1, e_m2, e_m2F, e_m1, e_mT, e_tbo, e_mFr, e_nil, e_cons, e_mB, e_mBF, e_tup, e_lst, e_call, e_callF, e_callIO, e_ioo, e_and, e_andt, e_andf, e_or, e_ort, e_orf, e_not, e_noto, e_bot, e_bof, e_if, e_tand, e_tor, e_tnot, e_isi, e_seq, e_seqn, e_seqr, e_seqb, e_seqc, e_seqo, e_snil, e_sno, e_sif, e_ift, e_iff, e_set, e_setF, e_ret, e_expr, e_gvar, e_par, e_par2, e_par3o, e_par3, e_gtup, e_gcons, e_gnil, e_for, e_sq, e_sql, e_sqt, e_r1, e_rgo, e_r2, e_rgo2, e_frn, e_frv, e_fro, e_fr1, e_fr2, e_wi1, e_wi2, e_re1, e_re2, e_lc, e_lcT, e_lctt, e_lctf, e_slL, e_slo, e_oNo, e_oS, e_oso, e_cut1, e_rev, e_rvo, e_ch, e_cht, e_chf, e_six, e_sxo, e_ixs, e_lens, e_lsts, e_lstl, e_lstt, e_pow, e_eqb, e_neb, e_ntb, e_isbb, e_isn, e_non, e_gt2, e_tint_non, e_tint_bl, e_tint_int, e_tint_str, e_tint_tup, e_tint_lst, e_tint_scr, e_tbool_non, e_tbool_bl, e_tbool_int, e_tbool_str, e_tbool_tup, e_tbool_lst, e_tbool_scr, e_tstr_non, e_tstr_bl, e_tstr_int, e_tstr_str, e_tstr_tup, e_tstr_lst, e_tstr_scr, e_ttuple_non, e_ttuple_bl, e_ttuple_int, e_ttuple_str, e_ttuple_tup, e_ttuple_lst, e_ttuple_scr, e_tlist_non, e_tlist_bl, e_tlist_int, e_tlist_str, e_tlist_tup, e_tlist_lst, e_tlist_scr, e_forn, e_fcn, e_fcr, e_fcc, e_fcb, e_revT, e_rvT, e_lr, e_tr, e_rg1, e_rg2, e_rgo1, e_rg2o, e_en, e_enl, e_ent, e_zp, e_zpl, e_zpt, e_isi2, e_catT, e_catL, e_aug, e_ago, e_agn, e_meth1, e_meo, e_apd, e_dc, e_dcT, e_dctt, e_dctf, e_koi, e_kos, e_dg, e_augix, e_aug2, e_sl, e_sl2l, e_sl2t, e_repT, e_repL, e_yes, e_add, e_sub, e_mul, e_fdiv, e_mod, e_cmp, e_neg, e_ixt, e_ixl, e_at0, e_at1, e_at2, e_at3, e_eqi, e_nei, e_abs, e_int, e_intb, e_lenl, e_lent, e_tupl, e_tupt, e_can4, e_gtn, e_fori, e_fio, e_setdc, e_sdco, e_get2, e_isdk, e_geto, e_gtos, e_gton, e_newd, e_disp1, e_parok, e_parov, e_parvo, e_paroo, e_indc, e_nindc, e_max2, e_min2, e_meth0, e_me0, items_nil, items_cons, keyD_i, e_ch3, e_c3t, e_c3f, e_rgd2, e_rgv, e_rgvo, e_gsub, e_sub2, e_index, e_isl, e_lc2, bne_self_eq_false, beq_self_eq_true, Nat.reduceBEq, Nat.reduceEqDiff, List.length_cons, List.length_nil, Bool.and_true, Bool.true_and, lo1, lo2, lo3, lo4, lo5, decide_true, decide_false, fino2_r, fino_r, outo_r, outo_n, List.set_cons_zero, List.set_cons_succ, fino_n, Bool.not_true, Bool.not_false, nq, oe, bD, DL.isNon, il, decide_eq_true lt]
        rfl
      · rw [if_neg lt]
        simp -implicitDefEqProofs only [e_bdo, e_bdn, e_bd, e_ob, e_obn, e_grt, e_grf, e_set0, e_setS, e_can0, e_can1, e_can2, e_can3, e_canS, e_own0, e_ownS, e_iol0, e_iolS, e_gt0, e_gtS, e_var, e_rdv, e_rdo, e_c, e_drv, e_drs, e_drov, e_droo, e_tvv, e_tvs, e_tvov, e_tvoo, e_tvl0, e_tvl1, e_drl0, e_drl1, e_m2, e_m2F, e_m1, e_mT, e_tbo, e_mFr, e_nil, e_cons, e_mB, e_mBF, e_tup, e_lst, e_call, e_callF, e_callIO, e_ioo, e_and, e_andt, e_andf, e_or, e_ort, e_orf, e_not, e_noto, e_bot, e_bof, e_if, e_tand, e_tor, e_tnot, e_isi, e_seq, e_seqn, e_seqr, e_seqb, e_seqc, e_seqo, e_snil, e_sno, e_sif, e_ift, e_iff, e_set, e_setF, e_ret, e_expr, e_gvar, e_par, e_par2, e_par3o, e_par3, e_gtup, e_gcons, e_gnil, e_for, e_sq, e_sql, e_sqt, e_r1, e_rgo, e_r2, e_rgo2, e_frn, e_frv, e_fro, e_fr1, e_fr2, e_wi1, e_wi2, e_re1, e_re2, e_lc, e_lcT, e_lctt, e_lctf, e_slL, e_slo, e_oNo, e_oS, e_oso, e_cut1, e_rev, e_rvo, e_ch, e_cht, e_chf, e_six, e_sxo, e_ixs, e_lens, e_lsts, e_lstl, e_lstt, e_pow, e_eqb, e_neb, e_ntb, e_isbb, e_isn, e_non, e_gt2, e_tint_non, e_tint_bl, e_tint_int, e_tint_str, e_tint_tup, e_tint_lst, e_tint_scr, e_tbool_non, e_tbool_bl, e_tbool_int, e_tbool_str, e_tbool_tup, e_tbool_lst, e_tbool_scr, e_tstr_non, e_tstr_bl, e_tstr_int, e_tstr_str, e_tstr_tup, e_tstr_lst, e_tstr_scr, e_ttuple_non, e_ttuple_bl, e_ttuple_int, e_ttuple_str, e_ttuple_tup, e_ttuple_lst, e_ttuple_scr, e_tlist_non, e_tlist_bl, e_tlist_int, e_tlist_str, e_tlist_tup, e_tlist_lst, e_tlist_scr, e_forn, e_fcn, e_fcr, e_fcc, e_fcb, e_revT, e_rvT, e_lr, e_tr, e_rg1, e_rg2, e_rgo1, e_rg2o, e_en, e_enl, e_ent, e_zp, e_zpl, e_zpt, e_isi2, e_catT, e_catL, e_aug, e_ago, e_agn, e_meth1, e_meo, e_apd, e_dc, e_dcT, e_dctt, e_dctf, e_koi, e_kos, e_dg, e_augix, e_aug2, e_sl, e_sl2l, e_sl2t, e_repT, e_repL, e_yes, e_add, e_sub, e_mul, e_fdiv, e_mod, e_cmp, e_neg, e_ixt, e_ixl, e_at0, e_at1, e_at2, e_at3, e_eqi, e_nei, e_abs, e_int, e_intb, e_lenl, e_lent, e_tupl, e_tupt, e_can4, e_gtn, e_fori, e_fio, e_setdc, e_sdco, e_get2, e_isdk, e_geto, e_gtos, e_gton, e_newd, e_disp1, e_parok, e_parov, e_parvo, e_paroo, e_indc, e_nindc, e_max2, e_min2, e_meth0, e_me0, items_nil, items_cons, keyD_i, e_ch3, e_c3t, e_c3f, e_rgd2, e_rgv, e_rgvo, e_gsub, e_sub2, e_index, e_isl, e_lc2, bne_self_eq_false, beq_self_eq_true, Nat.reduceBEq, Nat.reduceEqDiff, List.length_cons, List.length_nil, Bool.and_true, Bool.true_and, lo1, lo2, lo3, lo4, lo5, decide_true, decide_false, fino2_r, fino_r, outo_r, outo_n, List.set_cons_zero, List.set_cons_succ, fino_n, Bool.not_true, Bool.not_false, nq, oe, bD, DL.isNon, il, decide_eq_false lt]
        rfl
theorem ba_loop {K n : Nat} (h : KN K n) {w : List Int} (hw : Wn K n w) : ∀ (l : List (List Int)) (acc : Option (List Int × Rat)) (x3 x4 : Option D), (∀ o ∈ l, Wn K n o) → (∀ b q, acc = some (b, q) → Sz 60 q) → ∃ y3 y4, forL (gVar 3) baB (l.map wd) [some (.v (.int (K : Int))), some (.v (wd w)), some (.v (bD acc)), ov x3, ov x4] = some (.nx [some (.v (.int (K : Int))), some (.v (wd w)), some (.v (bD (l.foldl (bstep K w) acc))), ov y3, ov y4])
  | [], acc, x3, x4, _, _ => ⟨x3, x4, rfl⟩
  | o :: l, acc, x3, x4, hl, ha => by
    have ho := hl o List.mem_cons_self
    obtain ⟨z4, st⟩ := ba_step h hw ho ha (x4 := x4)
    obtain ⟨y3, y4, ih⟩ := ba_loop h hw l (bstep K w acc o) (some (wd o)) z4 (fun x hx => hl x (List.mem_cons_of_mem _ hx)) (fun b q e => by
      unfold bstep at e
      by_cases z : o = w
      · rw [if_pos z] at e; exact ha b q e
      · rw [if_neg z] at e
        have sv := val_sz h hw ho z
        cases acc with
        | none => cases e; exact sv
        | some p =>
          obtain ⟨b0, q0⟩ := p
          simp only at e
          split at e
          · cases e; exact sv
          · cases e; exact ha b q rfl)
    refine ⟨y3, y4, ?_⟩
    rw [List.map_cons, for_cons (ρ1 := [some (.v (.int (K : Int))), some (.v (wd w)), some (.v (bD acc)), some (.v (wd o)), ov x4]) (by simp -implicitDefEqProofs only [e_bdo, e_bdn, e_bd, e_ob, e_obn, e_grt, e_grf, e_set0, e_setS, e_can0, e_can1, e_can2, e_can3, e_canS, e_own0, e_ownS, e_iol0, e_iolS, e_gt0, e_gtS, e_var, e_rdv, e_rdo, e_c, e_drv, e_drs, e_drov, e_droo, e_tvv, e_tvs, e_tvov, e_tvoo, e_tvl0, e_tvl1, e_drl0, e_drl1, e_m2, e_m2F, e_m1, e_mT, e_tbo, e_mFr, e_nil, e_cons, e_mB, e_mBF, e_tup, e_lst, e_call, e_callF, e_callIO, e_ioo, e_and, e_andt, e_andf, e_or, e_ort, e_orf, e_not, e_noto, e_bot, e_bof, e_if, e_tand, e_tor, e_tnot, e_isi, e_seq, e_seqn, e_seqr, e_seqb, e_seqc, e_seqo, e_snil, e_sno, e_sif, e_ift, e_iff, e_set, e_setF, e_ret, e_expr, e_gvar, e_par, e_par2, e_par3o, e_par3, e_gtup, e_gcons, e_gnil, e_for, e_sq, e_sql, e_sqt, e_r1, e_rgo, e_r2, e_rgo2, e_frn, e_frv, e_fro, e_fr1, e_fr2, e_wi1, e_wi2, e_re1, e_re2, e_lc, e_lcT, e_lctt, e_lctf, e_slL, e_slo, e_oNo, e_oS, e_oso, e_cut1, e_rev, e_rvo, e_ch, e_cht, e_chf, e_six, e_sxo, e_ixs, e_lens, e_lsts, e_lstl, e_lstt, e_pow, e_eqb, e_neb, e_ntb, e_isbb, e_isn, e_non, e_gt2, e_tint_non, e_tint_bl, e_tint_int, e_tint_str, e_tint_tup, e_tint_lst, e_tint_scr, e_tbool_non, e_tbool_bl, e_tbool_int, e_tbool_str, e_tbool_tup, e_tbool_lst, e_tbool_scr, e_tstr_non, e_tstr_bl, e_tstr_int, e_tstr_str, e_tstr_tup, e_tstr_lst, e_tstr_scr, e_ttuple_non, e_ttuple_bl, e_ttuple_int, e_ttuple_str, e_ttuple_tup, e_ttuple_lst, e_ttuple_scr, e_tlist_non, e_tlist_bl, e_tlist_int, e_tlist_str, e_tlist_tup, e_tlist_lst, e_tlist_scr, e_forn, e_fcn, e_fcr, e_fcc, e_fcb, e_revT, e_rvT, e_lr, e_tr, e_rg1, e_rg2, e_rgo1, e_rg2o, e_en, e_enl, e_ent, e_zp, e_zpl, e_zpt, e_isi2, e_catT, e_catL, e_aug, e_ago, e_agn, e_meth1, e_meo, e_apd, e_dc, e_dcT, e_dctt, e_dctf, e_koi, e_kos, e_dg, e_augix, e_aug2, e_sl, e_sl2l, e_sl2t, e_repT, e_repL, e_yes, e_add, e_sub, e_mul, e_fdiv, e_mod, e_cmp, e_neg, e_ixt, e_ixl, e_at0, e_at1, e_at2, e_at3, e_eqi, e_nei, e_abs, e_int, e_intb, e_lenl, e_lent, e_tupl, e_tupt, e_can4, e_gtn, e_fori, e_fio, e_setdc, e_sdco, e_get2, e_isdk, e_geto, e_gtos, e_gton, e_newd, e_disp1, e_parok, e_parov, e_parvo, e_paroo, e_indc, e_nindc, e_max2, e_min2, e_meth0, e_me0, items_nil, items_cons, keyD_i, e_ch3, e_c3t, e_c3f, e_rgd2, e_rgv, e_rgvo, e_gsub, e_sub2, e_index, e_isl, e_lc2, bne_self_eq_false, beq_self_eq_true, Nat.reduceBEq, Nat.reduceEqDiff, List.length_cons, List.length_nil, Bool.and_true, Bool.true_and, lo1, lo2, lo3, lo4, lo5, decide_true, decide_false, fino2_r, fino_r, outo_r, outo_n, List.set_cons_zero, List.set_cons_succ, fino_n, Bool.not_true, Bool.not_false]) st]
    exact ih
theorem best_answer_eq {K n : Nat} (h : KN K n) {w : List Int} (hw : Wn K n w) : den_best_answer [.int (K : Int), wd w] = some (bD (best K n w)) := by
  rw [den_best_answer, den_of]
  show fino (m_best_answer [some (.v (.int (K : Int))), some (.v (wd w)), none, none, none]) = _
  have n5 := h.n5
  have k2 : 2 ≤ K := by rcases h.k with rfl | rfl <;> omega
  have iw := is_word_eq (hw.wd h)
  have aw := all_words_eq h
  obtain ⟨y3, y4, e⟩ := ba_loop h hw (allW K n) none none none (fun o ho => all_mem ho) (fun b q e => by cases e)
  have e : forL (gVar 3) baB ((allW K n).map wd) [some (.v (.int (K : Int))), some (.v (wd w)), some (.v .non), none, none] = some (.nx [some (.v (.int (K : Int))), some (.v (wd w)), some (.v (bD (best K n w))), ov y3, ov y4]) := e
  have hm' : ∀ ρ, m_best_answer ρ = (sSeq (sIf (tOr' (tNot' (mT (mCall den_is_word (lCons (mVar 0) (lCons (mVar 1) lNil))))) (tOr' (mT (m2 (cmpI fun i j => decide (i < j)) (mB lenD (lCons (mVar 1) lNil)) (mC (.int 2)))) (mT (m2 (cmpI fun i j => decide (i < j)) (mVar 0) (mC (.int 2)))))) sNo sNil) (sSeq (sSet (gVar 2) (mC .non)) (sSeq (sFor (iSq (mCall den_all_words (lCons (mVar 0) (lCons (mB lenD (lCons (mVar 1) lNil)) lNil)))) (gVar 3) baB) (sRet (mVar 2))))) ρ := fun ρ => rfl
  rw [hm']
  unfold wd at *
  simp -implicitDefEqProofs only [e_bdo, e_bdn, e_bd, e_ob, e_obn, e_grt, e_grf, e_set0, e_setS, e_can0, e_can1, e_can2, e_can3, e_canS, e_own0, e_ownS, e_iol0, e_iolS, e_gt0, e_gtS, e_var, e_rdv, e_rdo, e_c, e_drv, e_drs, e_drov, e_droo, e_tvv, e_tvs, e_tvov, e_tvoo, e_tvl0, e_tvl1, e_drl0, e_drl1, e_m2, e_m2F, e_m1, e_mT, e_tbo, e_mFr, e_nil, e_cons, e_mB, e_mBF, e_tup, e_lst, e_call, e_callF, e_callIO, e_ioo, e_and, e_andt, e_andf, e_or, e_ort, e_orf, e_not, e_noto, e_bot, e_bof, e_if, e_tand, e_tor, e_tnot, e_isi, e_seq, e_seqn, e_seqr, e_seqb, e_seqc, e_seqo, e_snil, e_sno, e_sif, e_ift, e_iff, e_set, e_setF, e_ret, e_expr, e_gvar, e_par, e_par2, e_par3o, e_par3, e_gtup, e_gcons, e_gnil, e_for, e_sq, e_sql, e_sqt, e_r1, e_rgo, e_r2, e_rgo2, e_frn, e_frv, e_fro, e_fr1, e_fr2, e_wi1, e_wi2, e_re1, e_re2, e_lc, e_lcT, e_lctt, e_lctf, e_slL, e_slo, e_oNo, e_oS, e_oso, e_cut1, e_rev, e_rvo, e_ch, e_cht, e_chf, e_six, e_sxo, e_ixs, e_lens, e_lsts, e_lstl, e_lstt, e_pow, e_eqb, e_neb, e_ntb, e_isbb, e_isn, e_non, e_gt2, e_tint_non, e_tint_bl, e_tint_int, e_tint_str, e_tint_tup, e_tint_lst, e_tint_scr, e_tbool_non, e_tbool_bl, e_tbool_int, e_tbool_str, e_tbool_tup, e_tbool_lst, e_tbool_scr, e_tstr_non, e_tstr_bl, e_tstr_int, e_tstr_str, e_tstr_tup, e_tstr_lst, e_tstr_scr, e_ttuple_non, e_ttuple_bl, e_ttuple_int, e_ttuple_str, e_ttuple_tup, e_ttuple_lst, e_ttuple_scr, e_tlist_non, e_tlist_bl, e_tlist_int, e_tlist_str, e_tlist_tup, e_tlist_lst, e_tlist_scr, e_forn, e_fcn, e_fcr, e_fcc, e_fcb, e_revT, e_rvT, e_lr, e_tr, e_rg1, e_rg2, e_rgo1, e_rg2o, e_en, e_enl, e_ent, e_zp, e_zpl, e_zpt, e_isi2, e_catT, e_catL, e_aug, e_ago, e_agn, e_meth1, e_meo, e_apd, e_dc, e_dcT, e_dctt, e_dctf, e_koi, e_kos, e_dg, e_augix, e_aug2, e_sl, e_sl2l, e_sl2t, e_repT, e_repL, e_yes, e_add, e_sub, e_mul, e_fdiv, e_mod, e_cmp, e_neg, e_ixt, e_ixl, e_at0, e_at1, e_at2, e_at3, e_eqi, e_nei, e_abs, e_int, e_intb, e_lenl, e_lent, e_tupl, e_tupt, e_can4, e_gtn, e_fori, e_fio, e_setdc, e_sdco, e_get2, e_isdk, e_geto, e_gtos, e_gton, e_newd, e_disp1, e_parok, e_parov, e_parvo, e_paroo, e_indc, e_nindc, e_max2, e_min2, e_meth0, e_me0, items_nil, items_cons, keyD_i, e_ch3, e_c3t, e_c3f, e_rgd2, e_rgv, e_rgvo, e_gsub, e_sub2, e_index, e_isl, e_lc2, bne_self_eq_false, beq_self_eq_true, Nat.reduceBEq, Nat.reduceEqDiff, List.length_cons, List.length_nil, Bool.and_true, Bool.true_and, lo1, lo2, lo3, lo4, lo5, decide_true, decide_false, fino2_r, fino_r, outo_r, outo_n, List.set_cons_zero, List.set_cons_succ, fino_n, Bool.not_true, Bool.not_false, iw, List.length_map, hw.2, decide_eq_false (show ¬ (n : Int) < 2 by omega), decide_eq_false (show ¬ (K : Int) < 2 by omega), e_for, aw, e]
/-! going from answer to answer -/
def pw' (w : List Int) : PyData := .tuple (w.map PyData.int)
theorem toPL_wd : ∀ l : List (List Int), toPL (l.map wd) = some (l.map pw')
  | [] => rfl
  | w :: l => by
    rw [List.map_cons, toPL, toPL_wd l]
    unfold wd
    simp only [toP, pl_ints]
    rfl
theorem lay_wd : ∀ l : List (List Int), PyData.canLayAll0 (l.map pw') = true
  | [] => by simp [PyData.canLayAll0]
  | w :: l => by simp [PyData.canLayAll0, pw', PyData.canLay0, lay_ints, lay_wd l]
theorem dep_wd : ∀ l : List (List Int), PyData.depthAll (l.map pw') ≤ 5
  | [] => by simp [PyData.depthAll]
  | w :: l => by
    have := dep_wd l
    have := dep_ints w
    simp [PyData.depthAll, pw', PyData.depth]
    omega
theorem shl_wd (l : List (List Int)) : shp (.list (l.map pw')) = true := by
  have d := dep_wd l
  unfold shp SeqAt.shaped
  simp [PyData.canLay0, PyData.depth, lay_wd l]
  omega
theorem eqv_wd {a b : List Int} : PyData.eqv (pw' a) (pw' b) = decide (a = b) := by
  unfold pw'
  rw [PyData.eqv, eqv_intsD]
theorem any_wd {a : List Int} : ∀ l : List (List Int), ((l.map pw').any fun z => PyData.eqv z (pw' a)) = decide (a ∈ l)
  | [] => by simp
  | x :: l => by
    rw [List.map_cons, List.any_cons, any_wd l, eqv_wd, ← Bool.decide_or]
    exact decide_eq_decide.mpr (by rw [List.mem_cons, eq_comm])
theorem nin_wd {a : List Int} {l : List (List Int)} : notInL (wd a) (.lst (l.map wd)) = some (.bl (!decide (a ∈ l))) := by
  have s : shp (pw' a) = true := (shl_ints a).2
  have t : toP (wd a) = some (pw' a) := by
    unfold wd
    simp only [toP, pl_ints]
    rfl
  simp only [notInL, t, toPL_wd, ob, shl_wd, s, Bool.and_self, e_grt, any_wd]
def posW (h : List Int) : List (List Int) → Nat
  | [] => 0
  | x :: l => if x = h then 0 else posW h l + 1
theorem idx_wd {h : List Int} : ∀ {l : List (List Int)}, h ∈ l → idxP (pw' h) (l.map pw') = some (posW h l)
  | x :: l, q => by
    rw [List.map_cons]
    unfold idxP posW
    rw [eqv_wd]
    by_cases e : x = h
    · rw [decide_eq_true e, if_pos rfl, if_pos e]
    · rw [decide_eq_false e, if_neg (by decide), if_neg e]
      have : h ∈ l := by
        rcases List.mem_cons.mp q with z | z
        · exact absurd z.symm e
        · exact z
      rw [idx_wd this]
      rfl
theorem index_wd {h : List Int} {l : List (List Int)} (q : h ∈ l) : indexD (.lst (l.map wd)) (wd h) = some (.int (posW h l : Nat)) := by
  have s : shp (pw' h) = true := (shl_ints h).2
  have t : toP (wd h) = some (pw' h) := by
    unfold wd
    simp only [toP, pl_ints]
    rfl
  simp only [indexD, t, toPL_wd, ob, shl_wd, s, Bool.and_self, e_grt, idx_wd q]
def sim (n : Nat) : Nat → List Int → List (List Int) → Option (List Int × List (List Int))
  | 0, _, _ => none
  | f + 1, h, s => if h ∈ s then some (h, s) else match best 2 n h with
    | some (b, q) => if fr' 1 2 < q then sim n f b (s ++ [h]) else none
    | none => none
def chkR (n : Nat) : Bool := (allW 2 n).all fun w => decide ((2 : Int) ^ n ≤ ld 2 w w) && match sim n 100 w [] with
  | some (h, s) => decide (3 + posW h s ≤ s.length) && decide (h ∈ s)
  | none => false
theorem chk_ring : chkR 3 = true ∧ chkR 4 = true ∧ chkR 5 = true := ⟨by decide +kernel, by decide +kernel, by decide +kernel⟩
theorem has_cat {b w : List Int} : hasP (b ++ w) w = true := by
  unfold hasP
  rw [List.any_eq_true]
  refine ⟨b.length, List.mem_range.mpr (by rw [List.length_append]; omega), decide_eq_true ?_⟩
  rw [List.drop_left, List.take_length]
theorem half_sh : D.tup [D.int 1, D.int 2] = sh (fr' 1 2) := by kernel_rfl
theorem half_sz : Sz 3 (fr' 1 2) := Sz.div (by decide) (by decide) (by decide)
theorem words_of {K : Nat} {ys : List D} (hq : ∀ y ∈ ys, ∃ w : Int, (0 ≤ w ∧ w < (K : Int)) ∧ y = .int w) : ∃ l : List Int, ys = l.map D.int ∧ ∀ x ∈ l, 0 ≤ x ∧ x < (K : Int) := by
  induction ys with
  | nil => exact ⟨[], rfl, fun _ h => nomatch h⟩
  | cons y ys ih =>
    obtain ⟨l, rfl, h⟩ := ih fun z hz => hq z (List.mem_cons_of_mem _ hz)
    obtain ⟨w, hw, rfl⟩ := hq y List.mem_cons_self
    refine ⟨w :: l, rfl, fun x hx => ?_⟩
    rcases List.mem_cons.mp hx with rfl | hx
    · exact hw
    · exact h x hx
theorem word_draw {K n : Nat} (hk : K23 K) (h5 : n ≤ 5) {d : D} (g : Drw d) {o0 o2 o6 o7 o8 o9 o10 o11 o12 o13 o14 : Option SV} {x5 : Option D} : ∃ (w : List Int) (d2 : D), lcL (gVar 5) tYes' (mCallIO den__law_draw 1 (lCons (mVar 3) lNil)) [5] (rngL 0 n) [o0, some (.o false d), o2, some (.v (.int (K : Int))), some (.v (.int (n : Int))), ov x5, o6, o7, o8, o9, o10, o11, o12, o13, o14] = some (w.map D.int, [o0, some (.o false d2), o2, some (.v (.int (K : Int))), some (.v (.int (n : Int))), ov x5, o6, o7, o8, o9, o10, o11, o12, o13, o14]) ∧ Wn K n w ∧ Drw d2 := by
  have k3 : 2 ≤ K ∧ K ≤ 3 := by rcases hk with rfl | rfl <;> decide
  obtain ⟨ys, ρ1, e2, ⟨d2, g2, rfl⟩, hl, hq⟩ := lc_inv (gv := (gVar 5)) (c := tYes') (m := (mCallIO den__law_draw 1 (lCons (mVar 3) lNil))) (vs := [5]) (fun ρ => ∃ d2, Drw d2 ∧ ρ = [o0, some (.o false d2), o2, some (.v (.int (K : Int))), some (.v (.int (n : Int))), ov x5, o6, o7, o8, o9, o10, o11, o12, o13, o14]) (fun y => ∃ w : Int, (0 ≤ w ∧ w < (K : Int)) ∧ y = .int w) (ds := rngL 0 n) (ρ := [o0, some (.o false d), o2, some (.v (.int (K : Int))), some (.v (.int (n : Int))), ov x5, o6, o7, o8, o9, o10, o11, o12, o13, o14]) ⟨d, g, rfl⟩ (fun y hy ρ ⟨d2, g2, e⟩ => by
    subst e
    obtain ⟨v, d3, e3, g3, a3, b3⟩ := draw_ok (L := (K : Int)) g2 (by omega) (by omega)
    
    refine ⟨.int v, [o0, some (.o false d3), o2, some (.v (.int (K : Int))), some (.v (.int (n : Int))), ov x5, o6, o7, o8, o9, o10, o11, o12, o13, o14], ?_, ⟨v, ⟨a3, b3⟩, rfl⟩, d3, g3, rfl⟩
    simp -implicitDefEqProofs only [e_bdo, e_bdn, e_bd, e_ob, e_obn, e_grt, e_grf, e_set0, e_setS, e_can0, e_can1, e_can2, e_can3, e_canS, e_own0, e_ownS, e_iol0, e_iolS, e_gt0, e_gtS, e_var, e_rdv, e_rdo, e_c, e_drv, e_drs, e_drov, e_droo, e_tvv, e_tvs, e_tvov, e_tvoo, e_tvl0, e_tvl1, e_drl0, e_drl1, e_m2, e_m2F, e_m1, e_mT, e_tbo, e_mFr, e_nil, e_cons, e_mB, e_mBF, e_tup, e_lst, e_call, e_callF, e_callIO, e_ioo, e_and, e_andt, e_andf, e_or, e_ort, e_orf, e_not, e_noto, e_bot, e_bof, e_if, e_tand, e_tor, e_tnot, e_isi, e_seq, e_seqn, e_seqr, e_seqb, e_seqc, e_seqo, e_snil, e_sno, e_sif, e_ift, e_iff, e_set, e_setF, e_ret, e_expr, e_gvar, e_par, e_par2, e_par3o, e_par3, e_gtup, e_gcons, e_gnil, e_for, e_sq, e_sql, e_sqt, e_r1, e_rgo, e_r2, e_rgo2, e_frn, e_frv, e_fro, e_fr1, e_fr2, e_wi1, e_wi2, e_re1, e_re2, e_lc, e_lcT, e_lctt, e_lctf, e_slL, e_slo, e_oNo, e_oS, e_oso, e_cut1, e_rev, e_rvo, e_ch, e_cht, e_chf, e_six, e_sxo, e_ixs, e_lens, e_lsts, e_lstl, e_lstt, e_pow, e_eqb, e_neb, e_ntb, e_isbb, e_isn, e_non, e_gt2, e_tint_non, e_tint_bl, e_tint_int, e_tint_str, e_tint_tup, e_tint_lst, e_tint_scr, e_tbool_non, e_tbool_bl, e_tbool_int, e_tbool_str, e_tbool_tup, e_tbool_lst, e_tbool_scr, e_tstr_non, e_tstr_bl, e_tstr_int, e_tstr_str, e_tstr_tup, e_tstr_lst, e_tstr_scr, e_ttuple_non, e_ttuple_bl, e_ttuple_int, e_ttuple_str, e_ttuple_tup, e_ttuple_lst, e_ttuple_scr, e_tlist_non, e_tlist_bl, e_tlist_int, e_tlist_str, e_tlist_tup, e_tlist_lst, e_tlist_scr, e_forn, e_fcn, e_fcr, e_fcc, e_fcb, e_revT, e_rvT, e_lr, e_tr, e_rg1, e_rg2, e_rgo1, e_rg2o, e_en, e_enl, e_ent, e_zp, e_zpl, e_zpt, e_isi2, e_catT, e_catL, e_aug, e_ago, e_agn, e_meth1, e_meo, e_apd, e_dc, e_dcT, e_dctt, e_dctf, e_koi, e_kos, e_dg, e_augix, e_aug2, e_sl, e_sl2l, e_sl2t, e_repT, e_repL, e_yes, e_add, e_sub, e_mul, e_fdiv, e_mod, e_cmp, e_neg, e_ixt, e_ixl, e_at0, e_at1, e_at2, e_at3, e_eqi, e_nei, e_abs, e_int, e_intb, e_lenl, e_lent, e_tupl, e_tupt, e_can4, e_gtn, e_fori, e_fio, e_setdc, e_sdco, e_get2, e_isdk, e_geto, e_gtos, e_gton, e_newd, e_disp1, e_parok, e_parov, e_parvo, e_paroo, e_indc, e_nindc, e_max2, e_min2, e_meth0, e_me0, items_nil, items_cons, keyD_i, e_ch3, e_c3t, e_c3f, e_rgd2, e_rgv, e_rgvo, e_gsub, e_sub2, e_index, e_isl, e_lc2, bne_self_eq_false, beq_self_eq_true, Nat.reduceBEq, Nat.reduceEqDiff, List.length_cons, List.length_nil, Bool.and_true, Bool.true_and, lo1, lo2, lo3, lo4, lo5, decide_true, decide_false, fino2_r, fino_r, outo_r, outo_n, List.set_cons_zero, List.set_cons_succ, fino_n, Bool.not_true, Bool.not_false, e3])
  obtain ⟨l, rfl, hb⟩ := words_of hq
  rw [List.length_map, rng_len] at hl
  exact ⟨l, d2, e2, ⟨hb, hl⟩, g2⟩
theorem word_draw2 {K n : Nat} (hk : K23 K) (h5 : n ≤ 5) {d : D} (g : Drw d) {o0 o2 o3 o6 o7 o8 o9 o10 o11 o12 o13 o14 : Option SV} {x5 : Option D} (hK2 : K = 2) : ∃ (w : List Int) (d2 : D), lcL (gVar 5) tYes' (mCallIO den__law_draw 1 (lCons (mC (.int 2)) lNil)) [5] (rngL 0 n) [o0, some (.o false d), o2, o3, some (.v (.int (n : Int))), ov x5, o6, o7, o8, o9, o10, o11, o12, o13, o14] = some (w.map D.int, [o0, some (.o false d2), o2, o3, some (.v (.int (n : Int))), ov x5, o6, o7, o8, o9, o10, o11, o12, o13, o14]) ∧ Wn K n w ∧ Drw d2 := by
  have k3 : 2 ≤ K ∧ K ≤ 3 := by rcases hk with rfl | rfl <;> decide
  obtain ⟨ys, ρ1, e2, ⟨d2, g2, rfl⟩, hl, hq⟩ := lc_inv (gv := (gVar 5)) (c := tYes') (m := (mCallIO den__law_draw 1 (lCons (mC (.int 2)) lNil))) (vs := [5]) (fun ρ => ∃ d2, Drw d2 ∧ ρ = [o0, some (.o false d2), o2, o3, some (.v (.int (n : Int))), ov x5, o6, o7, o8, o9, o10, o11, o12, o13, o14]) (fun y => ∃ w : Int, (0 ≤ w ∧ w < (K : Int)) ∧ y = .int w) (ds := rngL 0 n) (ρ := [o0, some (.o false d), o2, o3, some (.v (.int (n : Int))), ov x5, o6, o7, o8, o9, o10, o11, o12, o13, o14]) ⟨d, g, rfl⟩ (fun y hy ρ ⟨d2, g2, e⟩ => by
    subst e
    obtain ⟨v, d3, e3, g3, a3, b3⟩ := draw_ok (L := (K : Int)) g2 (by omega) (by omega)
    rw [hK2, show ((2 : Nat) : Int) = 2 from rfl] at e3
    refine ⟨.int v, [o0, some (.o false d3), o2, o3, some (.v (.int (n : Int))), ov x5, o6, o7, o8, o9, o10, o11, o12, o13, o14], ?_, ⟨v, ⟨a3, b3⟩, rfl⟩, d3, g3, rfl⟩
    simp -implicitDefEqProofs only [e_bdo, e_bdn, e_bd, e_ob, e_obn, e_grt, e_grf, e_set0, e_setS, e_can0, e_can1, e_can2, e_can3, e_canS, e_own0, e_ownS, e_iol0, e_iolS, e_gt0, e_gtS, e_var, e_rdv, e_rdo, e_c, e_drv, e_drs, e_drov, e_droo, e_tvv, e_tvs, e_tvov, e_tvoo, e_tvl0, e_tvl1, e_drl0, e_drl1, e_m2, e_m2F, e_m1, e_mT, e_tbo, e_mFr, e_nil, e_cons, e_mB, e_mBF, e_tup, e_lst, e_call, e_callF, e_callIO, e_ioo, e_and, e_andt, e_andf, e_or, e_ort, e_orf, e_not, e_noto, e_bot, e_bof, e_if, e_tand, e_tor, e_tnot, e_isi, e_seq, e_seqn, e_seqr, e_seqb, e_seqc, e_seqo, e_snil, e_sno, e_sif, e_ift, e_iff, e_set, e_setF, e_ret, e_expr, e_gvar, e_par, e_par2, e_par3o, e_par3, e_gtup, e_gcons, e_gnil, e_for, e_sq, e_sql, e_sqt, e_r1, e_rgo, e_r2, e_rgo2, e_frn, e_frv, e_fro, e_fr1, e_fr2, e_wi1, e_wi2, e_re1, e_re2, e_lc, e_lcT, e_lctt, e_lctf, e_slL, e_slo, e_oNo, e_oS, e_oso, e_cut1, e_rev, e_rvo, e_ch, e_cht, e_chf, e_six, e_sxo, e_ixs, e_lens, e_lsts, e_lstl, e_lstt, e_pow, e_eqb, e_neb, e_ntb, e_isbb, e_isn, e_non, e_gt2, e_tint_non, e_tint_bl, e_tint_int, e_tint_str, e_tint_tup, e_tint_lst, e_tint_scr, e_tbool_non, e_tbool_bl, e_tbool_int, e_tbool_str, e_tbool_tup, e_tbool_lst, e_tbool_scr, e_tstr_non, e_tstr_bl, e_tstr_int, e_tstr_str, e_tstr_tup, e_tstr_lst, e_tstr_scr, e_ttuple_non, e_ttuple_bl, e_ttuple_int, e_ttuple_str, e_ttuple_tup, e_ttuple_lst, e_ttuple_scr, e_tlist_non, e_tlist_bl, e_tlist_int, e_tlist_str, e_tlist_tup, e_tlist_lst, e_tlist_scr, e_forn, e_fcn, e_fcr, e_fcc, e_fcb, e_revT, e_rvT, e_lr, e_tr, e_rg1, e_rg2, e_rgo1, e_rg2o, e_en, e_enl, e_ent, e_zp, e_zpl, e_zpt, e_isi2, e_catT, e_catL, e_aug, e_ago, e_agn, e_meth1, e_meo, e_apd, e_dc, e_dcT, e_dctt, e_dctf, e_koi, e_kos, e_dg, e_augix, e_aug2, e_sl, e_sl2l, e_sl2t, e_repT, e_repL, e_yes, e_add, e_sub, e_mul, e_fdiv, e_mod, e_cmp, e_neg, e_ixt, e_ixl, e_at0, e_at1, e_at2, e_at3, e_eqi, e_nei, e_abs, e_int, e_intb, e_lenl, e_lent, e_tupl, e_tupt, e_can4, e_gtn, e_fori, e_fio, e_setdc, e_sdco, e_get2, e_isdk, e_geto, e_gtos, e_gton, e_newd, e_disp1, e_parok, e_parov, e_parvo, e_paroo, e_indc, e_nindc, e_max2, e_min2, e_meth0, e_me0, items_nil, items_cons, keyD_i, e_ch3, e_c3t, e_c3f, e_rgd2, e_rgv, e_rgvo, e_gsub, e_sub2, e_index, e_isl, e_lc2, bne_self_eq_false, beq_self_eq_true, Nat.reduceBEq, Nat.reduceEqDiff, List.length_cons, List.length_nil, Bool.and_true, Bool.true_and, lo1, lo2, lo3, lo4, lo5, decide_true, decide_false, fino2_r, fino_r, outo_r, outo_n, List.set_cons_zero, List.set_cons_succ, fino_n, Bool.not_true, Bool.not_false, e3])
  obtain ⟨l, rfl, hb⟩ := words_of hq
  rw [List.length_map, rng_len] at hl
  exact ⟨l, d2, e2, ⟨hb, hl⟩, g2⟩
theorem turn_ok {d : D} (g : Drw d) {o0 o2 o11 o12 o13 o14 : Option SV} {x3 x4 x5 x6 x7 x8 x9 x10 : Option D} : ∃ d2 y3 y4 y5 y6 y7 y8 y9 y10, Drw d2 ∧ (sSeq (sSet (gVar 3) (m2 addI (mC (.int 2)) (mCallIO den__law_draw 1 (lCons (mC (.int 2)) lNil)))) (sSeq (sSet (gVar 4) (m2 addI (mC (.int 2)) (mCallIO den__law_draw 1 (lCons (eIf (mT (m2 eqD (mVar 3) (mC (.int 2)))) (mC (.int 4)) (mC (.int 2))) lNil)))) (sSeq (sSet (gVar 6) (mB tupD (lCons (mFr (mLc (iRange1 (mVar 4)) (gVar 5) tYes' (mCallIO den__law_draw 1 (lCons (mVar 3) lNil)) [5])) lNil))) (sSeq (sSet (gTup' 2 (gCons' (gVar 7) (gCons' (gVar 8) gNil'))) (mCall den_best_answer (lCons (mVar 3) (lCons (mVar 6) lNil)))) (sSeq (sIf (tOr' (mT (m2 neD (mB lenD (lCons (mVar 7) lNil)) (mVar 4))) (tOr' (mT (m2 eqD (mVar 7) (mVar 6))) (tNot' (mT (mCall (den__law_same 4) (lCons (m2 ixD (mCall den_race (lCons (mCall den_fair (lCons (mVar 3) lNil)) (lCons (mTup (lCons (mVar 7) (lCons (mVar 6) lNil))) lNil))) (mC (.int 0))) (lCons (mTup (lCons (mVar 8) (lCons (m2 ixD (mCall den_odds (lCons (mVar 3) (lCons (mVar 6) (lCons (mVar 7) lNil)))) (mC (.int 0))) lNil))) lNil))))))) (sRet (mC (.bl false))) sNil) (sSeq (sSet (gVar 9) (mB tupD (lCons (mFr (mLc (iRange1 (mVar 4)) (gVar 5) tYes' (mCallIO den__law_draw 1 (lCons (mVar 3) lNil)) [5])) lNil))) (sSeq (sIf (mT (m2 neD (mVar 9) (mVar 6))) (sSeq (sSet (gVar 10) (m2 ixD (m2 ixD (mCall den_race (lCons (mCall den_fair (lCons (mVar 3) lNil)) (lCons (mTup (lCons (mVar 9) (lCons (mVar 6) lNil))) lNil))) (mC (.int 0))) (mC (.int 0)))) (sIf (tOr' (mT (mCall den_is_less (lCons (mVar 8) (lCons (mVar 10) lNil)))) (tNot' (mT (mCall (den__law_same 4) (lCons (mFr (mLst (lCons (m2 ixD (mCall den_odds (lCons (mVar 3) (lCons (mVar 9) (lCons (mVar 6) lNil)))) (mC (.int 0))) (lCons (mCall den_is_answer (lCons (mVar 3) (lCons (mVar 6) (lCons (mVar 9) lNil)))) lNil)))) (lCons (mFr (mLst (lCons (mVar 10) (lCons (mCall den_is_less (lCons (mTup (lCons (mC (.int 1)) (lCons (mC (.int 2)) lNil))) (lCons (mVar 10) lNil))) lNil)))) lNil)))))) (sRet (mC (.bl false))) sNil)) sNil) (sSeq (sIf (tNot' (mT (mCall (den__law_same 4) (lCons (mCall den_is_answer (lCons (mVar 3) (lCons (mVar 6) (lCons (mVar 7) lNil)))) (lCons (mCall den_is_less (lCons (mTup (lCons (mC (.int 1)) (lCons (mC (.int 2)) lNil))) (lCons (mVar 8) lNil))) lNil))))) (sRet (mC (.bl false))) sNil) (sIf (tOr' (mT (m2 notB (mCall den_is_answer (lCons (mVar 3) (lCons (mVar 6) (lCons (m2 catT (mVar 7) (mTup (lCons (mC (.int 0)) lNil))) lNil)))) (mC (.bl false)))) (mT (m2 notB (mCall den_has_part (lCons (m2 catT (mVar 7) (mVar 6)) (lCons (mVar 6) lNil))) (mC (.bl true))))) (sRet (mC (.bl false))) sNil))))))))) [o0, some (.o false d), o2, ov x3, ov x4, ov x5, ov x6, ov x7, ov x8, ov x9, ov x10, o11, o12, o13, o14] = some (.nx [o0, some (.o false d2), o2, ov y3, ov y4, ov y5, ov y6, ov y7, ov y8, ov y9, ov y10, o11, o12, o13, o14]) := by
  obtain ⟨v1, d1, e1, g1, a1, b1⟩ := draw_ok (L := 2) g (by decide) (by decide)
  obtain ⟨K, hK⟩ : ∃ K : Nat, 2 + v1 = (K : Int) := ⟨(2 + v1).toNat, by omega⟩
  have k23 : K23 K := by unfold K23; omega
  obtain ⟨v2, d2, n, e2, g2, hn, kn⟩ : ∃ v2 d2 n, (mCallIO den__law_draw 1 (lCons (eIf (mT (m2 eqD (mVar 3) (mC (.int 2)))) (mC (.int 4)) (mC (.int 2))) lNil)) [o0, some (.o false d1), o2, some (.v (.int (K : Int))), ov x4, ov x5, ov x6, ov x7, ov x8, ov x9, ov x10, o11, o12, o13, o14] = some (.v (.int v2), [o0, some (.o false d2), o2, some (.v (.int (K : Int))), ov x4, ov x5, ov x6, ov x7, ov x8, ov x9, ov x10, o11, o12, o13, o14]) ∧ Drw d2 ∧ 2 + v2 = ((n : Nat) : Int) ∧ KN K n := by
    rcases k23 with rfl | rfl
    · obtain ⟨v2, d2, e2, g2, a2, b2⟩ := draw_ok (L := 4) g1 (by decide) (by decide)
      refine ⟨v2, d2, (2 + v2).toNat, ?_, g2, by omega, .inl ⟨rfl, by omega, by omega⟩⟩
      simp -implicitDefEqProofs only [e_bdo, e_bdn, e_bd, e_ob, e_obn, e_grt, e_grf, e_set0, e_setS, e_can0, e_can1, e_can2, e_can3, e_canS, e_own0, e_ownS, e_iol0, e_iolS, e_gt0, e_gtS, e_var, e_rdv, e_rdo, e_c, e_drv, e_drs, e_drov, e_droo, e_tvv, e_tvs, e_tvov, e_tvoo, e_tvl0, e_tvl1, e_drl0, e_drl1, e_m2, e_m2F, e_m1, e_mT, e_tbo, e_mFr, e_nil, e_cons, e_mB, e_mBF, e_tup, e_lst, e_call, e_callF, e_callIO, e_ioo, e_and, e_andt, e_andf, e_or, e_ort, e_orf, e_not, e_noto, e_bot, e_bof, e_if, e_tand, e_tor, e_tnot, e_isi, e_seq, e_seqn, e_seqr, e_seqb, e_seqc, e_seqo, e_snil, e_sno, e_sif, e_ift, e_iff, e_set, e_setF, e_ret, e_expr, e_gvar, e_par, e_par2, e_par3o, e_par3, e_gtup, e_gcons, e_gnil, e_for, e_sq, e_sql, e_sqt, e_r1, e_rgo, e_r2, e_rgo2, e_frn, e_frv, e_fro, e_fr1, e_fr2, e_wi1, e_wi2, e_re1, e_re2, e_lc, e_lcT, e_lctt, e_lctf, e_slL, e_slo, e_oNo, e_oS, e_oso, e_cut1, e_rev, e_rvo, e_ch, e_cht, e_chf, e_six, e_sxo, e_ixs, e_lens, e_lsts, e_lstl, e_lstt, e_pow, e_eqb, e_neb, e_ntb, e_isbb, e_isn, e_non, e_gt2, e_tint_non, e_tint_bl, e_tint_int, e_tint_str, e_tint_tup, e_tint_lst, e_tint_scr, e_tbool_non, e_tbool_bl, e_tbool_int, e_tbool_str, e_tbool_tup, e_tbool_lst, e_tbool_scr, e_tstr_non, e_tstr_bl, e_tstr_int, e_tstr_str, e_tstr_tup, e_tstr_lst, e_tstr_scr, e_ttuple_non, e_ttuple_bl, e_ttuple_int, e_ttuple_str, e_ttuple_tup, e_ttuple_lst, e_ttuple_scr, e_tlist_non, e_tlist_bl, e_tlist_int, e_tlist_str, e_tlist_tup, e_tlist_lst, e_tlist_scr, e_forn, e_fcn, e_fcr, e_fcc, e_fcb, e_revT, e_rvT, e_lr, e_tr, e_rg1, e_rg2, e_rgo1, e_rg2o, e_en, e_enl, e_ent, e_zp, e_zpl, e_zpt, e_isi2, e_catT, e_catL, e_aug, e_ago, e_agn, e_meth1, e_meo, e_apd, e_dc, e_dcT, e_dctt, e_dctf, e_koi, e_kos, e_dg, e_augix, e_aug2, e_sl, e_sl2l, e_sl2t, e_repT, e_repL, e_yes, e_add, e_sub, e_mul, e_fdiv, e_mod, e_cmp, e_neg, e_ixt, e_ixl, e_at0, e_at1, e_at2, e_at3, e_eqi, e_nei, e_abs, e_int, e_intb, e_lenl, e_lent, e_tupl, e_tupt, e_can4, e_gtn, e_fori, e_fio, e_setdc, e_sdco, e_get2, e_isdk, e_geto, e_gtos, e_gton, e_newd, e_disp1, e_parok, e_parov, e_parvo, e_paroo, e_indc, e_nindc, e_max2, e_min2, e_meth0, e_me0, items_nil, items_cons, keyD_i, e_ch3, e_c3t, e_c3f, e_rgd2, e_rgv, e_rgvo, e_gsub, e_sub2, e_index, e_isl, e_lc2, bne_self_eq_false, beq_self_eq_true, Nat.reduceBEq, Nat.reduceEqDiff, List.length_cons, List.length_nil, Bool.and_true, Bool.true_and, lo1, lo2, lo3, lo4, lo5, decide_true, decide_false, fino2_r, fino_r, outo_r, outo_n, List.set_cons_zero, List.set_cons_succ, fino_n, Bool.not_true, Bool.not_false, e_eqi, show decide (((2 : Nat) : Int) = 2) = true from rfl, e2]
    · obtain ⟨v2, d2, e2, g2, a2, b2⟩ := draw_ok (L := 2) g1 (by decide) (by decide)
      refine ⟨v2, d2, (2 + v2).toNat, ?_, g2, by omega, .inr ⟨rfl, by omega, by omega⟩⟩
      simp -implicitDefEqProofs only [e_bdo, e_bdn, e_bd, e_ob, e_obn, e_grt, e_grf, e_set0, e_setS, e_can0, e_can1, e_can2, e_can3, e_canS, e_own0, e_ownS, e_iol0, e_iolS, e_gt0, e_gtS, e_var, e_rdv, e_rdo, e_c, e_drv, e_drs, e_drov, e_droo, e_tvv, e_tvs, e_tvov, e_tvoo, e_tvl0, e_tvl1, e_drl0, e_drl1, e_m2, e_m2F, e_m1, e_mT, e_tbo, e_mFr, e_nil, e_cons, e_mB, e_mBF, e_tup, e_lst, e_call, e_callF, e_callIO, e_ioo, e_and, e_andt, e_andf, e_or, e_ort, e_orf, e_not, e_noto, e_bot, e_bof, e_if, e_tand, e_tor, e_tnot, e_isi, e_seq, e_seqn, e_seqr, e_seqb, e_seqc, e_seqo, e_snil, e_sno, e_sif, e_ift, e_iff, e_set, e_setF, e_ret, e_expr, e_gvar, e_par, e_par2, e_par3o, e_par3, e_gtup, e_gcons, e_gnil, e_for, e_sq, e_sql, e_sqt, e_r1, e_rgo, e_r2, e_rgo2, e_frn, e_frv, e_fro, e_fr1, e_fr2, e_wi1, e_wi2, e_re1, e_re2, e_lc, e_lcT, e_lctt, e_lctf, e_slL, e_slo, e_oNo, e_oS, e_oso, e_cut1, e_rev, e_rvo, e_ch, e_cht, e_chf, e_six, e_sxo, e_ixs, e_lens, e_lsts, e_lstl, e_lstt, e_pow, e_eqb, e_neb, e_ntb, e_isbb, e_isn, e_non, e_gt2, e_tint_non, e_tint_bl, e_tint_int, e_tint_str, e_tint_tup, e_tint_lst, e_tint_scr, e_tbool_non, e_tbool_bl, e_tbool_int, e_tbool_str, e_tbool_tup, e_tbool_lst, e_tbool_scr, e_tstr_non, e_tstr_bl, e_tstr_int, e_tstr_str, e_tstr_tup, e_tstr_lst, e_tstr_scr, e_ttuple_non, e_ttuple_bl, e_ttuple_int, e_ttuple_str, e_ttuple_tup, e_ttuple_lst, e_ttuple_scr, e_tlist_non, e_tlist_bl, e_tlist_int, e_tlist_str, e_tlist_tup, e_tlist_lst, e_tlist_scr, e_forn, e_fcn, e_fcr, e_fcc, e_fcb, e_revT, e_rvT, e_lr, e_tr, e_rg1, e_rg2, e_rgo1, e_rg2o, e_en, e_enl, e_ent, e_zp, e_zpl, e_zpt, e_isi2, e_catT, e_catL, e_aug, e_ago, e_agn, e_meth1, e_meo, e_apd, e_dc, e_dcT, e_dctt, e_dctf, e_koi, e_kos, e_dg, e_augix, e_aug2, e_sl, e_sl2l, e_sl2t, e_repT, e_repL, e_yes, e_add, e_sub, e_mul, e_fdiv, e_mod, e_cmp, e_neg, e_ixt, e_ixl, e_at0, e_at1, e_at2, e_at3, e_eqi, e_nei, e_abs, e_int, e_intb, e_lenl, e_lent, e_tupl, e_tupt, e_can4, e_gtn, e_fori, e_fio, e_setdc, e_sdco, e_get2, e_isdk, e_geto, e_gtos, e_gton, e_newd, e_disp1, e_parok, e_parov, e_parvo, e_paroo, e_indc, e_nindc, e_max2, e_min2, e_meth0, e_me0, items_nil, items_cons, keyD_i, e_ch3, e_c3t, e_c3f, e_rgd2, e_rgv, e_rgvo, e_gsub, e_sub2, e_index, e_isl, e_lc2, bne_self_eq_false, beq_self_eq_true, Nat.reduceBEq, Nat.reduceEqDiff, List.length_cons, List.length_nil, Bool.and_true, Bool.true_and, lo1, lo2, lo3, lo4, lo5, decide_true, decide_false, fino2_r, fino_r, outo_r, outo_n, List.set_cons_zero, List.set_cons_succ, fino_n, Bool.not_true, Bool.not_false, e_eqi, show decide (((3 : Nat) : Int) = 2) = false from rfl, e2]
  have n5 := kn.n5
  have t0 : (sSet (gVar 3) (m2 addI (mC (.int 2)) (mCallIO den__law_draw 1 (lCons (mC (.int 2)) lNil)))) [o0, some (.o false d), o2, ov x3, ov x4, ov x5, ov x6, ov x7, ov x8, ov x9, ov x10, o11, o12, o13, o14] = some (.nx [o0, some (.o false d1), o2, some (.v (.int (K : Int))), ov x4, ov x5, ov x6, ov x7, ov x8, ov x9, ov x10, o11, o12, o13, o14]) := by simp -implicitDefEqProofs only [e_bdo, e_bdn, e_bd, e_ob, e_obn, e_grt, e_grf, e_set0, e_setS, e_can0, e_can1, e_can2, e_can3, e_canS, e_own0, e_ownS, e_iol0, e_iolS, e_gt0, e_gtS, e_var, e_rdv, e_rdo, e_c, e_drv, e_drs, e_drov, e_droo, e_tvv, e_tvs, e_tvov, e_tvoo, e_tvl0, e_tvl1, e_drl0, e_drl1, e_m2, e_m2F, e_m1, e_mT, e_tbo, e_mFr, e_nil, e_cons, e_mB, e_mBF, e_tup, e_lst, e_call, e_callF, e_callIO, e_ioo, e_and, e_andt, e_andf, e_or, e_ort, e_orf, e_not, e_noto, e_bot, e_bof, e_if, e_tand, e_tor, e_tnot, e_isi, e_seq, e_seqn, e_seqr, e_seqb, e_seqc, e_seqo, e_snil, e_sno, e_sif, e_ift, e_iff, e_set, e_setF, e_ret, e_expr, e_gvar, e_par, e_par2, e_par3o, e_par3, e_gtup, e_gcons, e_gnil, e_for, e_sq, e_sql, e_sqt, e_r1, e_rgo, e_r2, e_rgo2, e_frn, e_frv, e_fro, e_fr1, e_fr2, e_wi1, e_wi2, e_re1, e_re2, e_lc, e_lcT, e_lctt, e_lctf, e_slL, e_slo, e_oNo, e_oS, e_oso, e_cut1, e_rev, e_rvo, e_ch, e_cht, e_chf, e_six, e_sxo, e_ixs, e_lens, e_lsts, e_lstl, e_lstt, e_pow, e_eqb, e_neb, e_ntb, e_isbb, e_isn, e_non, e_gt2, e_tint_non, e_tint_bl, e_tint_int, e_tint_str, e_tint_tup, e_tint_lst, e_tint_scr, e_tbool_non, e_tbool_bl, e_tbool_int, e_tbool_str, e_tbool_tup, e_tbool_lst, e_tbool_scr, e_tstr_non, e_tstr_bl, e_tstr_int, e_tstr_str, e_tstr_tup, e_tstr_lst, e_tstr_scr, e_ttuple_non, e_ttuple_bl, e_ttuple_int, e_ttuple_str, e_ttuple_tup, e_ttuple_lst, e_ttuple_scr, e_tlist_non, e_tlist_bl, e_tlist_int, e_tlist_str, e_tlist_tup, e_tlist_lst, e_tlist_scr, e_forn, e_fcn, e_fcr, e_fcc, e_fcb, e_revT, e_rvT, e_lr, e_tr, e_rg1, e_rg2, e_rgo1, e_rg2o, e_en, e_enl, e_ent, e_zp, e_zpl, e_zpt, e_isi2, e_catT, e_catL, e_aug, e_ago, e_agn, e_meth1, e_meo, e_apd, e_dc, e_dcT, e_dctt, e_dctf, e_koi, e_kos, e_dg, e_augix, e_aug2, e_sl, e_sl2l, e_sl2t, e_repT, e_repL, e_yes, e_add, e_sub, e_mul, e_fdiv, e_mod, e_cmp, e_neg, e_ixt, e_ixl, e_at0, e_at1, e_at2, e_at3, e_eqi, e_nei, e_abs, e_int, e_intb, e_lenl, e_lent, e_tupl, e_tupt, e_can4, e_gtn, e_fori, e_fio, e_setdc, e_sdco, e_get2, e_isdk, e_geto, e_gtos, e_gton, e_newd, e_disp1, e_parok, e_parov, e_parvo, e_paroo, e_indc, e_nindc, e_max2, e_min2, e_meth0, e_me0, items_nil, items_cons, keyD_i, e_ch3, e_c3t, e_c3f, e_rgd2, e_rgv, e_rgvo, e_gsub, e_sub2, e_index, e_isl, e_lc2, bne_self_eq_false, beq_self_eq_true, Nat.reduceBEq, Nat.reduceEqDiff, List.length_cons, List.length_nil, Bool.and_true, Bool.true_and, lo1, lo2, lo3, lo4, lo5, decide_true, decide_false, fino2_r, fino_r, outo_r, outo_n, List.set_cons_zero, List.set_cons_succ, fino_n, Bool.not_true, Bool.not_false, e1, hK]
  have t1 : (sSet (gVar 4) (m2 addI (mC (.int 2)) (mCallIO den__law_draw 1 (lCons (eIf (mT (m2 eqD (mVar 3) (mC (.int 2)))) (mC (.int 4)) (mC (.int 2))) lNil)))) [o0, some (.o false d1), o2, some (.v (.int (K : Int))), ov x4, ov x5, ov x6, ov x7, ov x8, ov x9, ov x10, o11, o12, o13, o14] = some (.nx [o0, some (.o false d2), o2, some (.v (.int (K : Int))), some (.v (.int (n : Int))), ov x5, ov x6, ov x7, ov x8, ov x9, ov x10, o11, o12, o13, o14]) := by
    rw [e_set, e_m2, e_c, e_bdo]
    unfold bd
    rw [e2]
    simp -implicitDefEqProofs only [e_bdo, e_bdn, e_bd, e_ob, e_obn, e_grt, e_grf, e_set0, e_setS, e_can0, e_can1, e_can2, e_can3, e_canS, e_own0, e_ownS, e_iol0, e_iolS, e_gt0, e_gtS, e_var, e_rdv, e_rdo, e_c, e_drv, e_drs, e_drov, e_droo, e_tvv, e_tvs, e_tvov, e_tvoo, e_tvl0, e_tvl1, e_drl0, e_drl1, e_m2, e_m2F, e_m1, e_mT, e_tbo, e_mFr, e_nil, e_cons, e_mB, e_mBF, e_tup, e_lst, e_call, e_callF, e_callIO, e_ioo, e_and, e_andt, e_andf, e_or, e_ort, e_orf, e_not, e_noto, e_bot, e_bof, e_if, e_tand, e_tor, e_tnot, e_isi, e_seq, e_seqn, e_seqr, e_seqb, e_seqc, e_seqo, e_snil, e_sno, e_sif, e_ift, e_iff, e_set, e_setF, e_ret, e_expr, e_gvar, e_par, e_par2, e_par3o, e_par3, e_gtup, e_gcons, e_gnil, e_for, e_sq, e_sql, e_sqt, e_r1, e_rgo, e_r2, e_rgo2, e_frn, e_frv, e_fro, e_fr1, e_fr2, e_wi1, e_wi2, e_re1, e_re2, e_lc, e_lcT, e_lctt, e_lctf, e_slL, e_slo, e_oNo, e_oS, e_oso, e_cut1, e_rev, e_rvo, e_ch, e_cht, e_chf, e_six, e_sxo, e_ixs, e_lens, e_lsts, e_lstl, e_lstt, e_pow, e_eqb, e_neb, e_ntb, e_isbb, e_isn, e_non, e_gt2, e_tint_non, e_tint_bl, e_tint_int, e_tint_str, e_tint_tup, e_tint_lst, e_tint_scr, e_tbool_non, e_tbool_bl, e_tbool_int, e_tbool_str, e_tbool_tup, e_tbool_lst, e_tbool_scr, e_tstr_non, e_tstr_bl, e_tstr_int, e_tstr_str, e_tstr_tup, e_tstr_lst, e_tstr_scr, e_ttuple_non, e_ttuple_bl, e_ttuple_int, e_ttuple_str, e_ttuple_tup, e_ttuple_lst, e_ttuple_scr, e_tlist_non, e_tlist_bl, e_tlist_int, e_tlist_str, e_tlist_tup, e_tlist_lst, e_tlist_scr, e_forn, e_fcn, e_fcr, e_fcc, e_fcb, e_revT, e_rvT, e_lr, e_tr, e_rg1, e_rg2, e_rgo1, e_rg2o, e_en, e_enl, e_ent, e_zp, e_zpl, e_zpt, e_isi2, e_catT, e_catL, e_aug, e_ago, e_agn, e_meth1, e_meo, e_apd, e_dc, e_dcT, e_dctt, e_dctf, e_koi, e_kos, e_dg, e_augix, e_aug2, e_sl, e_sl2l, e_sl2t, e_repT, e_repL, e_yes, e_add, e_sub, e_mul, e_fdiv, e_mod, e_cmp, e_neg, e_ixt, e_ixl, e_at0, e_at1, e_at2, e_at3, e_eqi, e_nei, e_abs, e_int, e_intb, e_lenl, e_lent, e_tupl, e_tupt, e_can4, e_gtn, e_fori, e_fio, e_setdc, e_sdco, e_get2, e_isdk, e_geto, e_gtos, e_gton, e_newd, e_disp1, e_parok, e_parov, e_parvo, e_paroo, e_indc, e_nindc, e_max2, e_min2, e_meth0, e_me0, items_nil, items_cons, keyD_i, e_ch3, e_c3t, e_c3f, e_rgd2, e_rgv, e_rgvo, e_gsub, e_sub2, e_index, e_isl, e_lc2, bne_self_eq_false, beq_self_eq_true, Nat.reduceBEq, Nat.reduceEqDiff, List.length_cons, List.length_nil, Bool.and_true, Bool.true_and, lo1, lo2, lo3, lo4, lo5, decide_true, decide_false, fino2_r, fino_r, outo_r, outo_n, List.set_cons_zero, List.set_cons_succ, fino_n, Bool.not_true, Bool.not_false, hn]
  obtain ⟨w, d3, ew, hw, g3⟩ := word_draw k23 n5.2 g2 (o0 := o0) (o2 := o2) (o6 := ov x6) (o7 := ov x7) (o8 := ov x8) (o9 := ov x9) (o10 := ov x10) (o11 := o11) (o12 := o12) (o13 := o13) (o14 := o14) (x5 := x5)
  have t2 : (sSet (gVar 6) (mB tupD (lCons (mFr (mLc (iRange1 (mVar 4)) (gVar 5) tYes' (mCallIO den__law_draw 1 (lCons (mVar 3) lNil)) [5])) lNil))) [o0, some (.o false d2), o2, some (.v (.int (K : Int))), some (.v (.int (n : Int))), ov x5, ov x6, ov x7, ov x8, ov x9, ov x10, o11, o12, o13, o14] = some (.nx [o0, some (.o false d3), o2, some (.v (.int (K : Int))), some (.v (.int (n : Int))), ov x5, some (.v (wd w)), ov x7, ov x8, ov x9, ov x10, o11, o12, o13, o14]) := by simp -implicitDefEqProofs only [e_bdo, e_bdn, e_bd, e_ob, e_obn, e_grt, e_grf, e_set0, e_setS, e_can0, e_can1, e_can2, e_can3, e_canS, e_own0, e_ownS, e_iol0, e_iolS, e_gt0, e_gtS, e_var, e_rdv, e_rdo, e_c, e_drv, e_drs, e_drov, e_droo, e_tvv, e_tvs, e_tvov, e_tvoo, e_tvl0, e_tvl1, e_drl0, e_drl1, e_m2, e_m2F, e_m1, e_mT, e_tbo, e_mFr, e_nil, e_cons, e_mB, e_mBF, e_tup, e_lst, e_call, e_callF, e_callIO, e_ioo, e_and, e_andt, e_andf, e_or, e_ort, e_orf, e_not, e_noto, e_bot, e_bof, e_if, e_tand, e_tor, e_tnot, e_isi, e_seq, e_seqn, e_seqr, e_seqb, e_seqc, e_seqo, e_snil, e_sno, e_sif, e_ift, e_iff, e_set, e_setF, e_ret, e_expr, e_gvar, e_par, e_par2, e_par3o, e_par3, e_gtup, e_gcons, e_gnil, e_for, e_sq, e_sql, e_sqt, e_r1, e_rgo, e_r2, e_rgo2, e_frn, e_frv, e_fro, e_fr1, e_fr2, e_wi1, e_wi2, e_re1, e_re2, e_lc, e_lcT, e_lctt, e_lctf, e_slL, e_slo, e_oNo, e_oS, e_oso, e_cut1, e_rev, e_rvo, e_ch, e_cht, e_chf, e_six, e_sxo, e_ixs, e_lens, e_lsts, e_lstl, e_lstt, e_pow, e_eqb, e_neb, e_ntb, e_isbb, e_isn, e_non, e_gt2, e_tint_non, e_tint_bl, e_tint_int, e_tint_str, e_tint_tup, e_tint_lst, e_tint_scr, e_tbool_non, e_tbool_bl, e_tbool_int, e_tbool_str, e_tbool_tup, e_tbool_lst, e_tbool_scr, e_tstr_non, e_tstr_bl, e_tstr_int, e_tstr_str, e_tstr_tup, e_tstr_lst, e_tstr_scr, e_ttuple_non, e_ttuple_bl, e_ttuple_int, e_ttuple_str, e_ttuple_tup, e_ttuple_lst, e_ttuple_scr, e_tlist_non, e_tlist_bl, e_tlist_int, e_tlist_str, e_tlist_tup, e_tlist_lst, e_tlist_scr, e_forn, e_fcn, e_fcr, e_fcc, e_fcb, e_revT, e_rvT, e_lr, e_tr, e_rg1, e_rg2, e_rgo1, e_rg2o, e_en, e_enl, e_ent, e_zp, e_zpl, e_zpt, e_isi2, e_catT, e_catL, e_aug, e_ago, e_agn, e_meth1, e_meo, e_apd, e_dc, e_dcT, e_dctt, e_dctf, e_koi, e_kos, e_dg, e_augix, e_aug2, e_sl, e_sl2l, e_sl2t, e_repT, e_repL, e_yes, e_add, e_sub, e_mul, e_fdiv, e_mod, e_cmp, e_neg, e_ixt, e_ixl, e_at0, e_at1, e_at2, e_at3, e_eqi, e_nei, e_abs, e_int, e_intb, e_lenl, e_lent, e_tupl, e_tupt, e_can4, e_gtn, e_fori, e_fio, e_setdc, e_sdco, e_get2, e_isdk, e_geto, e_gtos, e_gton, e_newd, e_disp1, e_parok, e_parov, e_parvo, e_paroo, e_indc, e_nindc, e_max2, e_min2, e_meth0, e_me0, items_nil, items_cons, keyD_i, e_ch3, e_c3t, e_c3f, e_rgd2, e_rgv, e_rgvo, e_gsub, e_sub2, e_index, e_isl, e_lc2, bne_self_eq_false, beq_self_eq_true, Nat.reduceBEq, Nat.reduceEqDiff, List.length_cons, List.length_nil, Bool.and_true, Bool.true_and, lo1, lo2, lo3, lo4, lo5, decide_true, decide_false, fino2_r, fino_r, outo_r, outo_n, List.set_cons_zero, List.set_cons_succ, fino_n, Bool.not_true, Bool.not_false, rgOk_of (show n < 2 ^ 62 by omega), Int.toNat_natCast, e_fro, rng_len, show lineOk n = true from decide_eq_true (by omega), ew]; rfl
  obtain ⟨b, hb, wb, nb, bmax⟩ := best_ok kn hw
  have ba := best_answer_eq kn hw
  rw [hb] at ba
  have ba : den_best_answer [.int (K : Int), wd w] = some (.tup [wd b, sh (val K w b)]) := ba
  have t3 : (sSet (gTup' 2 (gCons' (gVar 7) (gCons' (gVar 8) gNil'))) (mCall den_best_answer (lCons (mVar 3) (lCons (mVar 6) lNil)))) [o0, some (.o false d3), o2, some (.v (.int (K : Int))), some (.v (.int (n : Int))), ov x5, some (.v (wd w)), ov x7, ov x8, ov x9, ov x10, o11, o12, o13, o14] = some (.nx [o0, some (.o false d3), o2, some (.v (.int (K : Int))), some (.v (.int (n : Int))), ov x5, some (.v (wd w)), some (.v (wd b)), some (.v (sh (val K w b))), ov x9, ov x10, o11, o12, o13, o14]) := by simp -implicitDefEqProofs only [e_bdo, e_bdn, e_bd, e_ob, e_obn, e_grt, e_grf, e_set0, e_setS, e_can0, e_can1, e_can2, e_can3, e_canS, e_own0, e_ownS, e_iol0, e_iolS, e_gt0, e_gtS, e_var, e_rdv, e_rdo, e_c, e_drv, e_drs, e_drov, e_droo, e_tvv, e_tvs, e_tvov, e_tvoo, e_tvl0, e_tvl1, e_drl0, e_drl1, e_m2, e_m2F, e_m1, e_mT, e_tbo, e_mFr, e_nil, e_cons, e_mB, e_mBF, e_tup, e_lst, e_call, e_callF, e_callIO, e_ioo, e_and, e_andt, e_andf, e_or, e_ort, e_orf, e_not, e_noto, e_bot, e_bof, e_if, e_tand, e_tor, e_tnot, e_isi, e_seq, e_seqn, e_seqr, e_seqb, e_seqc, e_seqo, e_snil, e_sno, e_sif, e_ift, e_iff, e_set, e_setF, e_ret, e_expr, e_gvar, e_par, e_par2, e_par3o, e_par3, e_gtup, e_gcons, e_gnil, e_for, e_sq, e_sql, e_sqt, e_r1, e_rgo, e_r2, e_rgo2, e_frn, e_frv, e_fro, e_fr1, e_fr2, e_wi1, e_wi2, e_re1, e_re2, e_lc, e_lcT, e_lctt, e_lctf, e_slL, e_slo, e_oNo, e_oS, e_oso, e_cut1, e_rev, e_rvo, e_ch, e_cht, e_chf, e_six, e_sxo, e_ixs, e_lens, e_lsts, e_lstl, e_lstt, e_pow, e_eqb, e_neb, e_ntb, e_isbb, e_isn, e_non, e_gt2, e_tint_non, e_tint_bl, e_tint_int, e_tint_str, e_tint_tup, e_tint_lst, e_tint_scr, e_tbool_non, e_tbool_bl, e_tbool_int, e_tbool_str, e_tbool_tup, e_tbool_lst, e_tbool_scr, e_tstr_non, e_tstr_bl, e_tstr_int, e_tstr_str, e_tstr_tup, e_tstr_lst, e_tstr_scr, e_ttuple_non, e_ttuple_bl, e_ttuple_int, e_ttuple_str, e_ttuple_tup, e_ttuple_lst, e_ttuple_scr, e_tlist_non, e_tlist_bl, e_tlist_int, e_tlist_str, e_tlist_tup, e_tlist_lst, e_tlist_scr, e_forn, e_fcn, e_fcr, e_fcc, e_fcb, e_revT, e_rvT, e_lr, e_tr, e_rg1, e_rg2, e_rgo1, e_rg2o, e_en, e_enl, e_ent, e_zp, e_zpl, e_zpt, e_isi2, e_catT, e_catL, e_aug, e_ago, e_agn, e_meth1, e_meo, e_apd, e_dc, e_dcT, e_dctt, e_dctf, e_koi, e_kos, e_dg, e_augix, e_aug2, e_sl, e_sl2l, e_sl2t, e_repT, e_repL, e_yes, e_add, e_sub, e_mul, e_fdiv, e_mod, e_cmp, e_neg, e_ixt, e_ixl, e_at0, e_at1, e_at2, e_at3, e_eqi, e_nei, e_abs, e_int, e_intb, e_lenl, e_lent, e_tupl, e_tupt, e_can4, e_gtn, e_fori, e_fio, e_setdc, e_sdco, e_get2, e_isdk, e_geto, e_gtos, e_gton, e_newd, e_disp1, e_parok, e_parov, e_parvo, e_paroo, e_indc, e_nindc, e_max2, e_min2, e_meth0, e_me0, items_nil, items_cons, keyD_i, e_ch3, e_c3t, e_c3f, e_rgd2, e_rgv, e_rgvo, e_gsub, e_sub2, e_index, e_isl, e_lc2, bne_self_eq_false, beq_self_eq_true, Nat.reduceBEq, Nat.reduceEqDiff, List.length_cons, List.length_nil, Bool.and_true, Bool.true_and, lo1, lo2, lo3, lo4, lo5, decide_true, decide_false, fino2_r, fino_r, outo_r, outo_n, List.set_cons_zero, List.set_cons_succ, fino_n, Bool.not_true, Bool.not_false, ba]
  obtain ⟨tt, rc⟩ := race_eq kn wb hw nb
  have od := odds_eq kn hw wb (Ne.symm nb)
  have lnb : lenD [wd b] = some (.int (n : Int)) := by unfold wd; rw [e_lent, List.length_map, wb.2]
  have eqb : eqD (wd b) (wd w) = some (.bl false) := by unfold wd; rw [eq_tup_ints, decide_eq_false nb]
  have sm4 := same_refl 4 (.tup [sh (val K w b), sh (val K b w)]) rfl
  have fe := fair_eq k23
  have sv := val_sz kn hw wb nb
  have t4 : (sIf (tOr' (mT (m2 neD (mB lenD (lCons (mVar 7) lNil)) (mVar 4))) (tOr' (mT (m2 eqD (mVar 7) (mVar 6))) (tNot' (mT (mCall (den__law_same 4) (lCons (m2 ixD (mCall den_race (lCons (mCall den_fair (lCons (mVar 3) lNil)) (lCons (mTup (lCons (mVar 7) (lCons (mVar 6) lNil))) lNil))) (mC (.int 0))) (lCons (mTup (lCons (mVar 8) (lCons (m2 ixD (mCall den_odds (lCons (mVar 3) (lCons (mVar 6) (lCons (mVar 7) lNil)))) (mC (.int 0))) lNil))) lNil))))))) (sRet (mC (.bl false))) sNil) [o0, some (.o false d3), o2, some (.v (.int (K : Int))), some (.v (.int (n : Int))), ov x5, some (.v (wd w)), some (.v (wd b)), some (.v (sh (val K w b))), ov x9, ov x10, o11, o12, o13, o14] = some (.nx [o0, some (.o false d3), o2, some (.v (.int (K : Int))), some (.v (.int (n : Int))), ov x5, some (.v (wd w)), some (.v (wd b)), some (.v (sh (val K w b))), ov x9, ov x10, o11, o12, o13, o14]) := by simp -implicitDefEqProofs only [e_bdo, e_bdn, e_bd, e_ob, e_obn, e_grt, e_grf, e_set0, e_setS, e_can0, e_can1, e_can2, e_can3, e_canS, e_own0, e_ownS, e_iol0, e_iolS, e_gt0, e_gtS, e_var, e_rdv, e_rdo, e_c, e_drv, e_drs, e_drov, e_droo, e_tvv, e_tvs, e_tvov, e_tvoo, e_tvl0, e_tvl1, e_drl0, e_drl1, e_m2, e_m2F, e_m1, e_mT, e_tbo, e_mFr, e_nil, e_cons, e_mB, e_mBF, e_tup, e_lst, e_call, e_callF, e_callIO, e_ioo, e_and, e_andt, e_andf, e_or, e_ort, e_orf, e_not, e_noto, e_bot, e_bof, e_if, e_tand, e_tor, e_tnot, e_isi, e_seq, e_seqn, e_seqr, e_seqb, e_seqc, e_seqo, e_snil, e_sno, e_sif, e_ift, e_iff, e_set, e_setF, e_ret, e_expr, e_gvar, e_par, e_par2, e_par3o, e_par3, e_gtup, e_gcons, e_gnil, e_for, e_sq, e_sql, e_sqt, e_r1, e_rgo, e_r2, e_rgo2, e_frn, e_frv, e_fro, e_fr1, e_fr2, e_wi1, e_wi2, e_re1, e_re2, e_lc, e_lcT, e_lctt, e_lctf, e_slL, e_slo, e_oNo, e_oS, e_oso, e_cut1, e_rev, e_rvo, e_ch, e_cht, e_chf, e_six, e_sxo, e_ixs, e_lens, e_lsts, e_lstl, e_lstt, e_pow, e_eqb, e_neb, e_ntb, e_isbb, e_isn, e_non, e_gt2, e_tint_non, e_tint_bl, e_tint_int, e_tint_str, e_tint_tup, e_tint_lst, e_tint_scr, e_tbool_non, e_tbool_bl, e_tbool_int, e_tbool_str, e_tbool_tup, e_tbool_lst, e_tbool_scr, e_tstr_non, e_tstr_bl, e_tstr_int, e_tstr_str, e_tstr_tup, e_tstr_lst, e_tstr_scr, e_ttuple_non, e_ttuple_bl, e_ttuple_int, e_ttuple_str, e_ttuple_tup, e_ttuple_lst, e_ttuple_scr, e_tlist_non, e_tlist_bl, e_tlist_int, e_tlist_str, e_tlist_tup, e_tlist_lst, e_tlist_scr, e_forn, e_fcn, e_fcr, e_fcc, e_fcb, e_revT, e_rvT, e_lr, e_tr, e_rg1, e_rg2, e_rgo1, e_rg2o, e_en, e_enl, e_ent, e_zp, e_zpl, e_zpt, e_isi2, e_catT, e_catL, e_aug, e_ago, e_agn, e_meth1, e_meo, e_apd, e_dc, e_dcT, e_dctt, e_dctf, e_koi, e_kos, e_dg, e_augix, e_aug2, e_sl, e_sl2l, e_sl2t, e_repT, e_repL, e_yes, e_add, e_sub, e_mul, e_fdiv, e_mod, e_cmp, e_neg, e_ixt, e_ixl, e_at0, e_at1, e_at2, e_at3, e_eqi, e_nei, e_abs, e_int, e_intb, e_lenl, e_lent, e_tupl, e_tupt, e_can4, e_gtn, e_fori, e_fio, e_setdc, e_sdco, e_get2, e_isdk, e_geto, e_gtos, e_gton, e_newd, e_disp1, e_parok, e_parov, e_parvo, e_paroo, e_indc, e_nindc, e_max2, e_min2, e_meth0, e_me0, items_nil, items_cons, keyD_i, e_ch3, e_c3t, e_c3f, e_rgd2, e_rgv, e_rgvo, e_gsub, e_sub2, e_index, e_isl, e_lc2, bne_self_eq_false, beq_self_eq_true, Nat.reduceBEq, Nat.reduceEqDiff, List.length_cons, List.length_nil, Bool.and_true, Bool.true_and, lo1, lo2, lo3, lo4, lo5, decide_true, decide_false, fino2_r, fino_r, outo_r, outo_n, List.set_cons_zero, List.set_cons_succ, fino_n, Bool.not_true, Bool.not_false, lnb, e_nei, decide_true, eqb, fe, rc, od, sm4]
  obtain ⟨o, d4, eo, ho, g4⟩ := word_draw k23 n5.2 g3 (o0 := o0) (o2 := o2) (o6 := some (.v (wd w))) (o7 := some (.v (wd b))) (o8 := some (.v (sh (val K w b)))) (o9 := ov x9) (o10 := ov x10) (o11 := o11) (o12 := o12) (o13 := o13) (o14 := o14) (x5 := x5)
  have t5 : (sSet (gVar 9) (mB tupD (lCons (mFr (mLc (iRange1 (mVar 4)) (gVar 5) tYes' (mCallIO den__law_draw 1 (lCons (mVar 3) lNil)) [5])) lNil))) [o0, some (.o false d3), o2, some (.v (.int (K : Int))), some (.v (.int (n : Int))), ov x5, some (.v (wd w)), some (.v (wd b)), some (.v (sh (val K w b))), ov x9, ov x10, o11, o12, o13, o14] = some (.nx [o0, some (.o false d4), o2, some (.v (.int (K : Int))), some (.v (.int (n : Int))), ov x5, some (.v (wd w)), some (.v (wd b)), some (.v (sh (val K w b))), some (.v (wd o)), ov x10, o11, o12, o13, o14]) := by simp -implicitDefEqProofs only [e_bdo, e_bdn, e_bd, e_ob, e_obn, e_grt, e_grf, e_set0, e_setS, e_can0, e_can1, e_can2, e_can3, e_canS, e_own0, e_ownS, e_iol0, e_iolS, e_gt0, e_gtS, e_var, e_rdv, e_rdo, e_c, e_drv, e_drs, e_drov, e_droo, e_tvv, e_tvs, e_tvov, e_tvoo, e_tvl0, e_tvl1, e_drl0, e_drl1, e_m2, e_m2F, e_m1, e_mT, e_tbo, e_mFr, e_nil, e_cons, e_mB, e_mBF, e_tup, e_lst, e_call, e_callF, e_callIO, e_ioo, e_and, e_andt, e_andf, e_or, e_ort, e_orf, e_not, e_noto, e_bot, e_bof, e_if, e_tand, e_tor, e_tnot, e_isi, e_seq, e_seqn, e_seqr, e_seqb, e_seqc, e_seqo, e_snil, e_sno, e_sif, e_ift, e_iff, e_set, e_setF, e_ret, e_expr, e_gvar, e_par, e_par2, e_par3o, e_par3, e_gtup, e_gcons, e_gnil, e_for, e_sq, e_sql, e_sqt, e_r1, e_rgo, e_r2, e_rgo2, e_frn, e_frv, e_fro, e_fr1, e_fr2, e_wi1, e_wi2, e_re1, e_re2, e_lc, e_lcT, e_lctt, e_lctf, e_slL, e_slo, e_oNo, e_oS, e_oso, e_cut1, e_rev, e_rvo, e_ch, e_cht, e_chf, e_six, e_sxo, e_ixs, e_lens, e_lsts, e_lstl, e_lstt, e_pow, e_eqb, e_neb, e_ntb, e_isbb, e_isn, e_non, e_gt2, e_tint_non, e_tint_bl, e_tint_int, e_tint_str, e_tint_tup, e_tint_lst, e_tint_scr, e_tbool_non, e_tbool_bl, e_tbool_int, e_tbool_str, e_tbool_tup, e_tbool_lst, e_tbool_scr, e_tstr_non, e_tstr_bl, e_tstr_int, e_tstr_str, e_tstr_tup, e_tstr_lst, e_tstr_scr, e_ttuple_non, e_ttuple_bl, e_ttuple_int, e_ttuple_str, e_ttuple_tup, e_ttuple_lst, e_ttuple_scr, e_tlist_non, e_tlist_bl, e_tlist_int, e_tlist_str, e_tlist_tup, e_tlist_lst, e_tlist_scr, e_forn, e_fcn, e_fcr, e_fcc, e_fcb, e_revT, e_rvT, e_lr, e_tr, e_rg1, e_rg2, e_rgo1, e_rg2o, e_en, e_enl, e_ent, e_zp, e_zpl, e_zpt, e_isi2, e_catT, e_catL, e_aug, e_ago, e_agn, e_meth1, e_meo, e_apd, e_dc, e_dcT, e_dctt, e_dctf, e_koi, e_kos, e_dg, e_augix, e_aug2, e_sl, e_sl2l, e_sl2t, e_repT, e_repL, e_yes, e_add, e_sub, e_mul, e_fdiv, e_mod, e_cmp, e_neg, e_ixt, e_ixl, e_at0, e_at1, e_at2, e_at3, e_eqi, e_nei, e_abs, e_int, e_intb, e_lenl, e_lent, e_tupl, e_tupt, e_can4, e_gtn, e_fori, e_fio, e_setdc, e_sdco, e_get2, e_isdk, e_geto, e_gtos, e_gton, e_newd, e_disp1, e_parok, e_parov, e_parvo, e_paroo, e_indc, e_nindc, e_max2, e_min2, e_meth0, e_me0, items_nil, items_cons, keyD_i, e_ch3, e_c3t, e_c3f, e_rgd2, e_rgv, e_rgvo, e_gsub, e_sub2, e_index, e_isl, e_lc2, bne_self_eq_false, beq_self_eq_true, Nat.reduceBEq, Nat.reduceEqDiff, List.length_cons, List.length_nil, Bool.and_true, Bool.true_and, lo1, lo2, lo3, lo4, lo5, decide_true, decide_false, fino2_r, fino_r, outo_r, outo_n, List.set_cons_zero, List.set_cons_succ, fino_n, Bool.not_true, Bool.not_false, rgOk_of (show n < 2 ^ 62 by omega), Int.toNat_natCast, e_fro, rng_len, show lineOk n = true from decide_eq_true (by omega), eo]; rfl
  have t6 : ∃ y10, (sIf (mT (m2 neD (mVar 9) (mVar 6))) (sSeq (sSet (gVar 10) (m2 ixD (m2 ixD (mCall den_race (lCons (mCall den_fair (lCons (mVar 3) lNil)) (lCons (mTup (lCons (mVar 9) (lCons (mVar 6) lNil))) lNil))) (mC (.int 0))) (mC (.int 0)))) (sIf (tOr' (mT (mCall den_is_less (lCons (mVar 8) (lCons (mVar 10) lNil)))) (tNot' (mT (mCall (den__law_same 4) (lCons (mFr (mLst (lCons (m2 ixD (mCall den_odds (lCons (mVar 3) (lCons (mVar 9) (lCons (mVar 6) lNil)))) (mC (.int 0))) (lCons (mCall den_is_answer (lCons (mVar 3) (lCons (mVar 6) (lCons (mVar 9) lNil)))) lNil)))) (lCons (mFr (mLst (lCons (mVar 10) (lCons (mCall den_is_less (lCons (mTup (lCons (mC (.int 1)) (lCons (mC (.int 2)) lNil))) (lCons (mVar 10) lNil))) lNil)))) lNil)))))) (sRet (mC (.bl false))) sNil)) sNil) [o0, some (.o false d4), o2, some (.v (.int (K : Int))), some (.v (.int (n : Int))), ov x5, some (.v (wd w)), some (.v (wd b)), some (.v (sh (val K w b))), some (.v (wd o)), ov x10, o11, o12, o13, o14] = some (.nx [o0, some (.o false d4), o2, some (.v (.int (K : Int))), some (.v (.int (n : Int))), ov x5, some (.v (wd w)), some (.v (wd b)), some (.v (sh (val K w b))), some (.v (wd o)), ov y10, o11, o12, o13, o14]) := by
    by_cases q : o = w
    · have neo : neD (wd o) (wd w) = some (.bl false) := by unfold wd; rw [ne_tup_ints, decide_eq_true q]; rfl
      refine ⟨x10, ?_⟩
      simp -implicitDefEqProofs only [e_bdo, e_bdn, e_bd, e_ob, e_obn, e_grt, e_grf, e_set0, e_setS, e_can0, e_can1, e_can2, e_can3, e_canS, e_own0, e_ownS, e_iol0, e_iolS, e_gt0, e_gtS, e_var, e_rdv, e_rdo, e_c, e_drv, e_drs, e_drov, e_droo, e_tvv, e_tvs, e_tvov, e_tvoo, e_tvl0, e_tvl1, e_drl0, e_drl1, e_m2, e_m2F, e_m1, e_mT, e_tbo, e_mFr, e_nil, e_cons, e_mB, e_mBF, e_tup, e_lst, e_call, e_callF, e_callIO, e_ioo, e_and, e_andt, e_andf, e_or, e_ort, e_orf, e_not, e_noto, e_bot, e_bof, e_if, e_tand, e_tor, e_tnot, e_isi, e_seq, e_seqn, e_seqr, e_seqb, e_seqc, e_seqo, e_snil, e_sno, e_sif, e_ift, e_iff, e_set, e_setF, e_ret, e_expr, e_gvar, e_par, e_par2, e_par3o, e_par3, e_gtup, e_gcons, e_gnil, e_for, e_sq, e_sql, e_sqt, e_r1, e_rgo, e_r2, e_rgo2, e_frn, e_frv, e_fro, e_fr1, e_fr2, e_wi1, e_wi2, e_re1, e_re2, e_lc, e_lcT, e_lctt, e_lctf, e_slL, e_slo, e_oNo, e_oS, e_oso, e_cut1, e_rev, e_rvo, e_ch, e_cht, e_chf, e_six, e_sxo, e_ixs, e_lens, e_lsts, e_lstl, e_lstt, e_pow, e_eqb, e_neb, e_ntb, e_isbb, e_isn, e_non, e_gt2, e_tint_non, e_tint_bl, e_tint_int, e_tint_str, e_tint_tup, e_tint_lst, e_tint_scr, e_tbool_non, e_tbool_bl, e_tbool_int, e_tbool_str, e_tbool_tup, e_tbool_lst, e_tbool_scr, e_tstr_non, e_tstr_bl, e_tstr_int, e_tstr_str, e_tstr_tup, e_tstr_lst, e_tstr_scr, e_ttuple_non, e_ttuple_bl, e_ttuple_int, e_ttuple_str, e_ttuple_tup, e_ttuple_lst, e_ttuple_scr, e_tlist_non, e_tlist_bl, e_tlist_int, e_tlist_str, e_tlist_tup, e_tlist_lst, e_tlist_scr, e_forn, e_fcn, e_fcr, e_fcc, e_fcb, e_revT, e_rvT, e_lr, e_tr, e_rg1, e_rg2, e_rgo1, e_rg2o, e_en, e_enl, e_ent, e_zp, e_zpl, e_zpt, e_isi2, e_catT, e_catL, e_aug, e_ago, e_agn, e_meth1, e_meo, e_apd, e_dc, e_dcT, e_dctt, e_dctf, e_koi, e_kos, e_dg, e_augix, e_aug2, e_sl, e_sl2l, e_sl2t, e_repT, e_repL, e_yes, e_add, e_sub, e_mul, e_fdiv, e_mod, e_cmp, e_neg, e_ixt, e_ixl, e_at0, e_at1, e_at2, e_at3, e_eqi, e_nei, e_abs, e_int, e_intb, e_lenl, e_lent, e_tupl, e_tupt, e_can4, e_gtn, e_fori, e_fio, e_setdc, e_sdco, e_get2, e_isdk, e_geto, e_gtos, e_gton, e_newd, e_disp1, e_parok, e_parov, e_parvo, e_paroo, e_indc, e_nindc, e_max2, e_min2, e_meth0, e_me0, items_nil, items_cons, keyD_i, e_ch3, e_c3t, e_c3f, e_rgd2, e_rgv, e_rgvo, e_gsub, e_sub2, e_index, e_isl, e_lc2, bne_self_eq_false, beq_self_eq_true, Nat.reduceBEq, Nat.reduceEqDiff, List.length_cons, List.length_nil, Bool.and_true, Bool.true_and, lo1, lo2, lo3, lo4, lo5, decide_true, decide_false, fino2_r, fino_r, outo_r, outo_n, List.set_cons_zero, List.set_cons_succ, fino_n, Bool.not_true, Bool.not_false, neo]
    · have neo : neD (wd o) (wd w) = some (.bl true) := by unfold wd; rw [ne_tup_ints, decide_eq_false q]; rfl
      obtain ⟨t2, rc2⟩ := race_eq kn ho hw q
      have od2 := odds_eq kn ho hw q
      have so := val_sz kn hw ho q
      have il := is_less_eq sv so (by omega)
      rw [decide_eq_false (bmax o ho q)] at il
      have ia := is_answer_eq kn hw ho q
      have ih := is_less_eq half_sz so (by omega)
      have sm6 := same_refl 4 (.lst [sh (val K w o), .bl (decide (fr' 1 2 < val K w o))]) rfl
      refine ⟨some (sh (val K w o)), ?_⟩
      simp -implicitDefEqProofs only [e_bdo, e_bdn, e_bd, e_ob, e_obn, e_grt, e_grf, e_set0, e_setS, e_can0, e_can1, e_can2, e_can3, e_canS, e_own0, e_ownS, e_iol0, e_iolS, e_gt0, e_gtS, e_var, e_rdv, e_rdo, e_c, e_drv, e_drs, e_drov, e_droo, e_tvv, e_tvs, e_tvov, e_tvoo, e_tvl0, e_tvl1, e_drl0, e_drl1, e_m2, e_m2F, e_m1, e_mT, e_tbo, e_mFr, e_nil, e_cons, e_mB, e_mBF, e_tup, e_lst, e_call, e_callF, e_callIO, e_ioo, e_and, e_andt, e_andf, e_or, e_ort, e_orf, e_not, e_noto, e_bot, e_bof, e_if, e_tand, e_tor, e_tnot, e_isi, e_seq, e_seqn, e_seqr, e_seqb, e_seqc, e_seqo, e_snil, e_sno, e_sif, e_ift, e_iff, e_set, e_setF, e_ret, e_expr, e_gvar, e_par, e_par2, e_par3o, e_par3, e_gtup, e_gcons, e_gnil, e_for, e_sq, e_sql, e_sqt, e_r1, e_rgo, e_r2, e_rgo2, e_frn, e_frv, e_fro, e_fr1, e_fr2, e_wi1, e_wi2, e_re1, e_re2, e_lc, e_lcT, e_lctt, e_lctf, e_slL, e_slo, e_oNo, e_oS, e_oso, e_cut1, e_rev, e_rvo, e_ch, e_cht, e_chf, e_six, e_sxo, e_ixs, e_lens, e_lsts, e_lstl, e_lstt, e_pow, e_eqb, e_neb, e_ntb, e_isbb, e_isn, e_non, e_gt2, e_tint_non, e_tint_bl, e_tint_int, e_tint_str, e_tint_tup, e_tint_lst, e_tint_scr, e_tbool_non, e_tbool_bl, e_tbool_int, e_tbool_str, e_tbool_tup, e_tbool_lst, e_tbool_scr, e_tstr_non, e_tstr_bl, e_tstr_int, e_tstr_str, e_tstr_tup, e_tstr_lst, e_tstr_scr, e_ttuple_non, e_ttuple_bl, e_ttuple_int, e_ttuple_str, e_ttuple_tup, e_ttuple_lst, e_ttuple_scr, e_tlist_non, e_tlist_bl, e_tlist_int, e_tlist_str, e_tlist_tup, e_tlist_lst, e_tlist_scr, e_forn, e_fcn, e_fcr, e_fcc, e_fcb, e_revT, e_rvT, e_lr, e_tr, e_rg1, e_rg2, e_rgo1, e_rg2o, e_en, e_enl, e_ent, e_zp, e_zpl, e_zpt, e_isi2, e_catT, e_catL, e_aug, e_ago, e_agn, e_meth1, e_meo, e_apd, e_dc, e_dcT, e_dctt, e_dctf, e_koi, e_kos, e_dg, e_augix, e_aug2, e_sl, e_sl2l, e_sl2t, e_repT, e_repL, e_yes, e_add, e_sub, e_mul, e_fdiv, e_mod, e_cmp, e_neg, e_ixt, e_ixl, e_at0, e_at1, e_at2, e_at3, e_eqi, e_nei, e_abs, e_int, e_intb, e_lenl, e_lent, e_tupl, e_tupt, e_can4, e_gtn, e_fori, e_fio, e_setdc, e_sdco, e_get2, e_isdk, e_geto, e_gtos, e_gton, e_newd, e_disp1, e_parok, e_parov, e_parvo, e_paroo, e_indc, e_nindc, e_max2, e_min2, e_meth0, e_me0, items_nil, items_cons, keyD_i, e_ch3, e_c3t, e_c3f, e_rgd2, e_rgv, e_rgvo, e_gsub, e_sub2, e_index, e_isl, e_lc2, bne_self_eq_false, beq_self_eq_true, Nat.reduceBEq, Nat.reduceEqDiff, List.length_cons, List.length_nil, Bool.and_true, Bool.true_and, lo1, lo2, lo3, lo4, lo5, decide_true, decide_false, fino2_r, fino_r, outo_r, outo_n, List.set_cons_zero, List.set_cons_succ, fino_n, Bool.not_true, Bool.not_false, neo, fe, rc2, il, od2, ia, half_sh, ih, sm6]
      rfl
  obtain ⟨y10, t6⟩ := t6
  have ia7 := is_answer_eq kn hw wb nb
  have ih7 := is_less_eq half_sz sv (by omega)
  have sm7 := same_refl 4 (.bl (decide (fr' 1 2 < val K w b))) rfl
  have t7 : (sIf (tNot' (mT (mCall (den__law_same 4) (lCons (mCall den_is_answer (lCons (mVar 3) (lCons (mVar 6) (lCons (mVar 7) lNil)))) (lCons (mCall den_is_less (lCons (mTup (lCons (mC (.int 1)) (lCons (mC (.int 2)) lNil))) (lCons (mVar 8) lNil))) lNil))))) (sRet (mC (.bl false))) sNil) [o0, some (.o false d4), o2, some (.v (.int (K : Int))), some (.v (.int (n : Int))), ov x5, some (.v (wd w)), some (.v (wd b)), some (.v (sh (val K w b))), some (.v (wd o)), ov y10, o11, o12, o13, o14] = some (.nx [o0, some (.o false d4), o2, some (.v (.int (K : Int))), some (.v (.int (n : Int))), ov x5, some (.v (wd w)), some (.v (wd b)), some (.v (sh (val K w b))), some (.v (wd o)), ov y10, o11, o12, o13, o14]) := by simp -implicitDefEqProofs only [e_bdo, e_bdn, e_bd, e_ob, e_obn, e_grt, e_grf, e_set0, e_setS, e_can0, e_can1, e_can2, e_can3, e_canS, e_own0, e_ownS, e_iol0, e_iolS, e_gt0, e_gtS, e_var, e_rdv, e_rdo, e_c, e_drv, e_drs, e_drov, e_droo, e_tvv, e_tvs, e_tvov, e_tvoo, e_tvl0, e_tvl1, e_drl0, e_drl1, e_m2, e_m2F, e_m1, e_mT, e_tbo, e_mFr, e_nil, e_cons, e_mB, e_mBF, e_tup, e_lst, e_call, e_callF, e_callIO, e_ioo, e_and, e_andt, e_andf, e_or, e_ort, e_orf, e_not, e_noto, e_bot, e_bof, e_if, e_tand, e_tor, e_tnot, e_isi, e_seq, e_seqn, e_seqr, e_seqb, e_seqc, e_seqo, e_snil, e_sno, e_sif, e_ift, e_iff, e_set, e_setF, e_ret, e_expr, e_gvar, e_par, e_par2, e_par3o, e_par3, e_gtup, e_gcons, e_gnil, e_for, e_sq, e_sql, e_sqt, e_r1, e_rgo, e_r2, e_rgo2, e_frn, e_frv, e_fro, e_fr1, e_fr2, e_wi1, e_wi2, e_re1, e_re2, e_lc, e_lcT, e_lctt, e_lctf, e_slL, e_slo, e_oNo, e_oS, e_oso, e_cut1, e_rev, e_rvo, e_ch, e_cht, e_chf, e_six, e_sxo, e_ixs, e_lens, e_lsts, e_lstl, e_lstt, e_pow, e_eqb, e_neb, e_ntb, e_isbb, e_isn, e_non, e_gt2, e_tint_non, e_tint_bl, e_tint_int, e_tint_str, e_tint_tup, e_tint_lst, e_tint_scr, e_tbool_non, e_tbool_bl, e_tbool_int, e_tbool_str, e_tbool_tup, e_tbool_lst, e_tbool_scr, e_tstr_non, e_tstr_bl, e_tstr_int, e_tstr_str, e_tstr_tup, e_tstr_lst, e_tstr_scr, e_ttuple_non, e_ttuple_bl, e_ttuple_int, e_ttuple_str, e_ttuple_tup, e_ttuple_lst, e_ttuple_scr, e_tlist_non, e_tlist_bl, e_tlist_int, e_tlist_str, e_tlist_tup, e_tlist_lst, e_tlist_scr, e_forn, e_fcn, e_fcr, e_fcc, e_fcb, e_revT, e_rvT, e_lr, e_tr, e_rg1, e_rg2, e_rgo1, e_rg2o, e_en, e_enl, e_ent, e_zp, e_zpl, e_zpt, e_isi2, e_catT, e_catL, e_aug, e_ago, e_agn, e_meth1, e_meo, e_apd, e_dc, e_dcT, e_dctt, e_dctf, e_koi, e_kos, e_dg, e_augix, e_aug2, e_sl, e_sl2l, e_sl2t, e_repT, e_repL, e_yes, e_add, e_sub, e_mul, e_fdiv, e_mod, e_cmp, e_neg, e_ixt, e_ixl, e_at0, e_at1, e_at2, e_at3, e_eqi, e_nei, e_abs, e_int, e_intb, e_lenl, e_lent, e_tupl, e_tupt, e_can4, e_gtn, e_fori, e_fio, e_setdc, e_sdco, e_get2, e_isdk, e_geto, e_gtos, e_gton, e_newd, e_disp1, e_parok, e_parov, e_parvo, e_paroo, e_indc, e_nindc, e_max2, e_min2, e_meth0, e_me0, items_nil, items_cons, keyD_i, e_ch3, e_c3t, e_c3f, e_rgd2, e_rgv, e_rgvo, e_gsub, e_sub2, e_index, e_isl, e_lc2, bne_self_eq_false, beq_self_eq_true, Nat.reduceBEq, Nat.reduceEqDiff, List.length_cons, List.length_nil, Bool.and_true, Bool.true_and, lo1, lo2, lo3, lo4, lo5, decide_true, decide_false, fino2_r, fino_r, outo_r, outo_n, List.set_cons_zero, List.set_cons_succ, fino_n, Bool.not_true, Bool.not_false, ia7, half_sh, ih7, sm7]
  have lb := wb.2
  have lw := hw.2
  have c8 : catT (wd b) (.tup [.int 0]) = some (wd (b ++ [0])) := by
    unfold wd
    rw [e_catT, show lineOk ((b.map D.int).length + [D.int 0].length) = true from decide_eq_true (by rw [List.length_map, List.length_singleton]; omega), List.map_append]
    rfl
  have c8b : catT (wd b) (wd w) = some (wd (b ++ w)) := by
    unfold wd
    rw [e_catT, show lineOk ((b.map D.int).length + (w.map D.int).length) = true from decide_eq_true (by rw [List.length_map, List.length_map]; omega), List.map_append]
    rfl
  have ia8 := is_answer_long (K := K) (n := n) (w := w) (o := b ++ [0]) (by rw [List.length_append, lb, lw]; simp)
  have hp8 := has_part_eq (l := b ++ w) (p := w) (by rw [List.length_append]; omega) (by omega)
  rw [has_cat] at hp8
  have hp8 : den_has_part [wd (b ++ w), wd w] = some (.bl true) := hp8
  have t8 : (sIf (tOr' (mT (m2 notB (mCall den_is_answer (lCons (mVar 3) (lCons (mVar 6) (lCons (m2 catT (mVar 7) (mTup (lCons (mC (.int 0)) lNil))) lNil)))) (mC (.bl false)))) (mT (m2 notB (mCall den_has_part (lCons (m2 catT (mVar 7) (mVar 6)) (lCons (mVar 6) lNil))) (mC (.bl true))))) (sRet (mC (.bl false))) sNil) [o0, some (.o false d4), o2, some (.v (.int (K : Int))), some (.v (.int (n : Int))), ov x5, some (.v (wd w)), some (.v (wd b)), some (.v (sh (val K w b))), some (.v (wd o)), ov y10, o11, o12, o13, o14] = some (.nx [o0, some (.o false d4), o2, some (.v (.int (K : Int))), some (.v (.int (n : Int))), ov x5, some (.v (wd w)), some (.v (wd b)), some (.v (sh (val K w b))), some (.v (wd o)), ov y10, o11, o12, o13, o14]) := by simp -implicitDefEqProofs only [e_bdo, e_bdn, e_bd, e_ob, e_obn, e_grt, e_grf, e_set0, e_setS, e_can0, e_can1, e_can2, e_can3, e_canS, e_own0, e_ownS, e_iol0, e_iolS, e_gt0, e_gtS, e_var, e_rdv, e_rdo, e_c, e_drv, e_drs, e_drov, e_droo, e_tvv, e_tvs, e_tvov, e_tvoo, e_tvl0, e_tvl1, e_drl0, e_drl1, e_m2, e_m2F, e_m1, e_mT, e_tbo, e_mFr, e_nil, e_cons, e_mB, e_mBF, e_tup, e_lst, e_call, e_callF, e_callIO, e_ioo, e_and, e_andt, e_andf, e_or, e_ort, e_orf, e_not, e_noto, e_bot, e_bof, e_if, e_tand, e_tor, e_tnot, e_isi, e_seq, e_seqn, e_seqr, e_seqb, e_seqc, e_seqo, e_snil, e_sno, e_sif, e_ift, e_iff, e_set, e_setF, e_ret, e_expr, e_gvar, e_par, e_par2, e_par3o, e_par3, e_gtup, e_gcons, e_gnil, e_for, e_sq, e_sql, e_sqt, e_r1, e_rgo, e_r2, e_rgo2, e_frn, e_frv, e_fro, e_fr1, e_fr2, e_wi1, e_wi2, e_re1, e_re2, e_lc, e_lcT, e_lctt, e_lctf, e_slL, e_slo, e_oNo, e_oS, e_oso, e_cut1, e_rev, e_rvo, e_ch, e_cht, e_chf, e_six, e_sxo, e_ixs, e_lens, e_lsts, e_lstl, e_lstt, e_pow, e_eqb, e_neb, e_ntb, e_isbb, e_isn, e_non, e_gt2, e_tint_non, e_tint_bl, e_tint_int, e_tint_str, e_tint_tup, e_tint_lst, e_tint_scr, e_tbool_non, e_tbool_bl, e_tbool_int, e_tbool_str, e_tbool_tup, e_tbool_lst, e_tbool_scr, e_tstr_non, e_tstr_bl, e_tstr_int, e_tstr_str, e_tstr_tup, e_tstr_lst, e_tstr_scr, e_ttuple_non, e_ttuple_bl, e_ttuple_int, e_ttuple_str, e_ttuple_tup, e_ttuple_lst, e_ttuple_scr, e_tlist_non, e_tlist_bl, e_tlist_int, e_tlist_str, e_tlist_tup, e_tlist_lst, e_tlist_scr, e_forn, e_fcn, e_fcr, e_fcc, e_fcb, e_revT, e_rvT, e_lr, e_tr, e_rg1, e_rg2, e_rgo1, e_rg2o, e_en, e_enl, e_ent, e_zp, e_zpl, e_zpt, e_isi2, e_catT, e_catL, e_aug, e_ago, e_agn, e_meth1, e_meo, e_apd, e_dc, e_dcT, e_dctt, e_dctf, e_koi, e_kos, e_dg, e_augix, e_aug2, e_sl, e_sl2l, e_sl2t, e_repT, e_repL, e_yes, e_add, e_sub, e_mul, e_fdiv, e_mod, e_cmp, e_neg, e_ixt, e_ixl, e_at0, e_at1, e_at2, e_at3, e_eqi, e_nei, e_abs, e_int, e_intb, e_lenl, e_lent, e_tupl, e_tupt, e_can4, e_gtn, e_fori, e_fio, e_setdc, e_sdco, e_get2, e_isdk, e_geto, e_gtos, e_gton, e_newd, e_disp1, e_parok, e_parov, e_parvo, e_paroo, e_indc, e_nindc, e_max2, e_min2, e_meth0, e_me0, items_nil, items_cons, keyD_i, e_ch3, e_c3t, e_c3f, e_rgd2, e_rgv, e_rgvo, e_gsub, e_sub2, e_index, e_isl, e_lc2, bne_self_eq_false, beq_self_eq_true, Nat.reduceBEq, Nat.reduceEqDiff, List.length_cons, List.length_nil, Bool.and_true, Bool.true_and, lo1, lo2, lo3, lo4, lo5, decide_true, decide_false, fino2_r, fino_r, outo_r, outo_n, List.set_cons_zero, List.set_cons_succ, fino_n, Bool.not_true, Bool.not_false, c8, ia8, c8b, hp8]
  refine ⟨d4, some (.int (K : Int)), some (.int (n : Int)), x5, some (wd w), some (wd b), some (sh (val K w b)), some (wd o), y10, g4, ?_⟩
  rw [e_seq, t0, e_seqn, e_seq, t1, e_seqn, e_seq, t2, e_seqn, e_seq, t3, e_seqn, e_seq, t4, e_seqn, e_seq, t5, e_seqn, e_seq, t6, e_seqn, e_seq, t7, e_seqn, t8]
  rfl
theorem ring_loop {n : Nat} (h : KN 2 n) {o0 o1 o2 o3 o4 o5 o6 o7 o9 o10 o14 : Option SV} : ∀ (f : Nat) (w : List Int) (s : List (List Int)) (r : List Int × List (List Int)) (x8 x13 : Option D), Wn 2 n w → s.length + f ≤ 1000 → sim n f w s = some r → ∃ y8 y13, Wn 2 n r.1 ∧ r.2.length ≤ 1000 ∧ whileN (mT (m2 notInL (mVar 11) (mVar 12))) (sSeq (sExpr (mMeth1 12 appendD (mVar 11))) (sSeq (sSet (gTup' 2 (gCons' (gVar 13) (gCons' (gVar 8) gNil'))) (mCall den_best_answer (lCons (mC (.int 2)) (lCons (mVar 11) lNil)))) (sSeq (sIf (tOr' (tNot' (mT (mCall den_is_less (lCons (mTup (lCons (mC (.int 1)) (lCons (mC (.int 2)) lNil))) (lCons (mVar 8) lNil))))) (mT (m2 notB (mCall den_is_answer (lCons (mC (.int 2)) (lCons (mVar 11) (lCons (mVar 13) lNil)))) (mC (.bl true))))) (sRet (mC (.bl false))) sNil) (sSet (gVar 11) (mVar 13))))) f [o0, o1, o2, o3, o4, o5, o6, o7, ov x8, o9, o10, some (.v (wd w)), some (.o false (.lst (s.map wd))), ov x13, o14] = some (.nx [o0, o1, o2, o3, o4, o5, o6, o7, ov y8, o9, o10, some (.v (wd r.1)), some (.o false (.lst (r.2.map wd))), ov y13, o14])
  | 0, w, s, r, x8, x13, _, _, e => nomatch e
  | f + 1, w, s, r, x8, x13, hw, hs, e => by
    unfold sim at e
    by_cases q : w ∈ s
    · rw [if_pos q] at e
      cases e
      refine ⟨x8, x13, hw, (show s.length ≤ 1000 by omega), ?_⟩
      exact while_end (by simp -implicitDefEqProofs only [e_bdo, e_bdn, e_bd, e_ob, e_obn, e_grt, e_grf, e_set0, e_setS, e_can0, e_can1, e_can2, e_can3, e_canS, e_own0, e_ownS, e_iol0, e_iolS, e_gt0, e_gtS, e_var, e_rdv, e_rdo, e_c, e_drv, e_drs, e_drov, e_droo, e_tvv, e_tvs, e_tvov, e_tvoo, e_tvl0, e_tvl1, e_drl0, e_drl1, e_m2, e_m2F, e_m1, e_mT, e_tbo, e_mFr, e_nil, e_cons, e_mB, e_mBF, e_tup, e_lst, e_call, e_callF, e_callIO, e_ioo, e_and, e_andt, e_andf, e_or, e_ort, e_orf, e_not, e_noto, e_bot, e_bof, e_if, e_tand, e_tor, e_tnot, e_isi, e_seq, e_seqn, e_seqr, e_seqb, e_seqc, e_seqo, e_snil, e_sno, e_sif, e_ift, e_iff, e_set, e_setF, e_ret, e_expr, e_gvar, e_par, e_par2, e_par3o, e_par3, e_gtup, e_gcons, e_gnil, e_for, e_sq, e_sql, e_sqt, e_r1, e_rgo, e_r2, e_rgo2, e_frn, e_frv, e_fro, e_fr1, e_fr2, e_wi1, e_wi2, e_re1, e_re2, e_lc, e_lcT, e_lctt, e_lctf, e_slL, e_slo, e_oNo, e_oS, e_oso, e_cut1, e_rev, e_rvo, e_ch, e_cht, e_chf, e_six, e_sxo, e_ixs, e_lens, e_lsts, e_lstl, e_lstt, e_pow, e_eqb, e_neb, e_ntb, e_isbb, e_isn, e_non, e_gt2, e_tint_non, e_tint_bl, e_tint_int, e_tint_str, e_tint_tup, e_tint_lst, e_tint_scr, e_tbool_non, e_tbool_bl, e_tbool_int, e_tbool_str, e_tbool_tup, e_tbool_lst, e_tbool_scr, e_tstr_non, e_tstr_bl, e_tstr_int, e_tstr_str, e_tstr_tup, e_tstr_lst, e_tstr_scr, e_ttuple_non, e_ttuple_bl, e_ttuple_int, e_ttuple_str, e_ttuple_tup, e_ttuple_lst, e_ttuple_scr, e_tlist_non, e_tlist_bl, e_tlist_int, e_tlist_str, e_tlist_tup, e_tlist_lst, e_tlist_scr, e_forn, e_fcn, e_fcr, e_fcc, e_fcb, e_revT, e_rvT, e_lr, e_tr, e_rg1, e_rg2, e_rgo1, e_rg2o, e_en, e_enl, e_ent, e_zp, e_zpl, e_zpt, e_isi2, e_catT, e_catL, e_aug, e_ago, e_agn, e_meth1, e_meo, e_apd, e_dc, e_dcT, e_dctt, e_dctf, e_koi, e_kos, e_dg, e_augix, e_aug2, e_sl, e_sl2l, e_sl2t, e_repT, e_repL, e_yes, e_add, e_sub, e_mul, e_fdiv, e_mod, e_cmp, e_neg, e_ixt, e_ixl, e_at0, e_at1, e_at2, e_at3, e_eqi, e_nei, e_abs, e_int, e_intb, e_lenl, e_lent, e_tupl, e_tupt, e_can4, e_gtn, e_fori, e_fio, e_setdc, e_sdco, e_get2, e_isdk, e_geto, e_gtos, e_gton, e_newd, e_disp1, e_parok, e_parov, e_parvo, e_paroo, e_indc, e_nindc, e_max2, e_min2, e_meth0, e_me0, items_nil, items_cons, keyD_i, e_ch3, e_c3t, e_c3f, e_rgd2, e_rgv, e_rgvo, e_gsub, e_sub2, e_index, e_isl, e_lc2, bne_self_eq_false, beq_self_eq_true, Nat.reduceBEq, Nat.reduceEqDiff, List.length_cons, List.length_nil, Bool.and_true, Bool.true_and, lo1, lo2, lo3, lo4, lo5, decide_true, decide_false, fino2_r, fino_r, outo_r, outo_n, List.set_cons_zero, List.set_cons_succ, fino_n, Bool.not_true, Bool.not_false, nin_wd, decide_eq_true q])
    · rw [if_neg q] at e
      obtain ⟨b, hb, wb, nb, bmax⟩ := best_ok h hw
      rw [hb] at e
      simp only at e
      by_cases lt : fr' 1 2 < val 2 w b
      · rw [if_pos lt] at e
        have ba := best_answer_eq h hw
        rw [hb] at ba
        have ba : den_best_answer [.int 2, wd w] = some (.tup [wd b, sh (val 2 w b)]) := ba
        have ia := is_answer_eq h hw wb nb
        rw [decide_eq_true lt] at ia
        have ia : den_is_answer [.int 2, wd w, wd b] = some (.bl true) := ia
        have il := is_less_eq half_sz (val_sz h hw wb nb) (by omega)
        rw [decide_eq_true lt] at il
        have ap : s.map wd ++ [wd w] = (s ++ [w]).map wd := by rw [List.map_append]; rfl
        obtain ⟨y8, y13, r1, r2, ih⟩ := ring_loop h (o0 := o0) (o1 := o1) (o2 := o2) (o3 := o3) (o4 := o4) (o5 := o5) (o6 := o6) (o7 := o7) (o9 := o9) (o10 := o10) (o14 := o14) f b (s ++ [w]) r (some (sh (val 2 w b))) (some (wd b)) wb (by rw [List.length_append, List.length_singleton]; omega) e
        refine ⟨y8, y13, r1, r2, ?_⟩
        rw [while_step (ρ1 := [o0, o1, o2, o3, o4, o5, o6, o7, ov x8, o9, o10, some (.v (wd w)), some (.o false (.lst (s.map wd))), ov x13, o14]) (ρ2 := [o0, o1, o2, o3, o4, o5, o6, o7, some (.v (sh (val 2 w b))), o9, o10, some (.v (wd b)), some (.o false (.lst ((s ++ [w]).map wd))), some (.v (wd b)), o14]) (by simp -implicitDefEqProofs only [e_bdo, e_bdn, e_bd, e_ob, e_obn, e_grt, e_grf, e_set0, e_setS, e_can0, e_can1, e_can2, e_can3, e_canS, e_own0, e_ownS, e_iol0, e_iolS, e_gt0, e_gtS, e_var, e_rdv, e_rdo, e_c, e_drv, e_drs, e_drov, e_droo, e_tvv, e_tvs, e_tvov, e_tvoo, e_tvl0, e_tvl1, e_drl0, e_drl1, e_m2, e_m2F, e_m1, e_mT, e_tbo, e_mFr, e_nil, e_cons, e_mB, e_mBF, e_tup, e_lst, e_call, e_callF, e_callIO, e_ioo, e_and, e_andt, e_andf, e_or, e_ort, e_orf, e_not, e_noto, e_bot, e_bof, e_if, e_tand, e_tor, e_tnot, e_isi, e_seq, e_seqn, e_seqr, e_seqb, e_seqc, e_seqo, e_snil, e_sno, e_sif, e_ift, e_iff, e_set, e_setF, e_ret, e_expr, e_gvar, e_par, e_par2, e_par3o, e_par3, e_gtup, e_gcons, e_gnil, e_for, e_sq, e_sql, e_sqt, e_r1, e_rgo, e_r2, e_rgo2, e_frn, e_frv, e_fro, e_fr1, e_fr2, e_wi1, e_wi2, e_re1, e_re2, e_lc, e_lcT, e_lctt, e_lctf, e_slL, e_slo, e_oNo, e_oS, e_oso, e_cut1, e_rev, e_rvo, e_ch, e_cht, e_chf, e_six, e_sxo, e_ixs, e_lens, e_lsts, e_lstl, e_lstt, e_pow, e_eqb, e_neb, e_ntb, e_isbb, e_isn, e_non, e_gt2, e_tint_non, e_tint_bl, e_tint_int, e_tint_str, e_tint_tup, e_tint_lst, e_tint_scr, e_tbool_non, e_tbool_bl, e_tbool_int, e_tbool_str, e_tbool_tup, e_tbool_lst, e_tbool_scr, e_tstr_non, e_tstr_bl, e_tstr_int, e_tstr_str, e_tstr_tup, e_tstr_lst, e_tstr_scr, e_ttuple_non, e_ttuple_bl, e_ttuple_int, e_ttuple_str, e_ttuple_tup, e_ttuple_lst, e_ttuple_scr, e_tlist_non, e_tlist_bl, e_tlist_int, e_tlist_str, e_tlist_tup, e_tlist_lst, e_tlist_scr, e_forn, e_fcn, e_fcr, e_fcc, e_fcb, e_revT, e_rvT, e_lr, e_tr, e_rg1, e_rg2, e_rgo1, e_rg2o, e_en, e_enl, e_ent, e_zp, e_zpl, e_zpt, e_isi2, e_catT, e_catL, e_aug, e_ago, e_agn, e_meth1, e_meo, e_apd, e_dc, e_dcT, e_dctt, e_dctf, e_koi, e_kos, e_dg, e_augix, e_aug2, e_sl, e_sl2l, e_sl2t, e_repT, e_repL, e_yes, e_add, e_sub, e_mul, e_fdiv, e_mod, e_cmp, e_neg, e_ixt, e_ixl, e_at0, e_at1, e_at2, e_at3, e_eqi, e_nei, e_abs, e_int, e_intb, e_lenl, e_lent, e_tupl, e_tupt, e_can4, e_gtn, e_fori, e_fio, e_setdc, e_sdco, e_get2, e_isdk, e_geto, e_gtos, e_gton, e_newd, e_disp1, e_parok, e_parov, e_parvo, e_paroo, e_indc, e_nindc, e_max2, e_min2, e_meth0, e_me0, items_nil, items_cons, keyD_i, e_ch3, e_c3t, e_c3f, e_rgd2, e_rgv, e_rgvo, e_gsub, e_sub2, e_index, e_isl, e_lc2, bne_self_eq_false, beq_self_eq_true, Nat.reduceBEq, Nat.reduceEqDiff, List.length_cons, List.length_nil, Bool.and_true, Bool.true_and, lo1, lo2, lo3, lo4, lo5, decide_true, decide_false, fino2_r, fino_r, outo_r, outo_n, List.set_cons_zero, List.set_cons_succ, fino_n, Bool.not_true, Bool.not_false, nin_wd, decide_eq_false q]) (by simp -implicitDefEqProofs only [e_bdo, e_bdn, e_bd, e_ob, e_obn, e_grt, e_grf, e_set0, e_setS, e_can0, e_can1, e_can2, e_can3, e_canS, e_own0, e_ownS, e_iol0, e_iolS, e_gt0, e_gtS, e_var, e_rdv, e_rdo, e_c, e_drv, e_drs, e_drov, e_droo, e_tvv, e_tvs, e_tvov, e_tvoo, e_tvl0, e_tvl1, e_drl0, e_drl1, e_m2, e_m2F, e_m1, e_mT, e_tbo, e_mFr, e_nil, e_cons, e_mB, e_mBF, e_tup, e_lst, e_call, e_callF, e_callIO, e_ioo, e_and, e_andt, e_andf, e_or, e_ort, e_orf, e_not, e_noto, e_bot, e_bof, e_if, e_tand, e_tor, e_tnot, e_isi, e_seq, e_seqn, e_seqr, e_seqb, e_seqc, e_seqo, e_snil, e_sno, e_sif, e_ift, e_iff, e_set, e_setF, e_ret, e_expr, e_gvar, e_par, e_par2, e_par3o, e_par3, e_gtup, e_gcons, e_gnil, e_for, e_sq, e_sql, e_sqt, e_r1, e_rgo, e_r2, e_rgo2, e_frn, e_frv, e_fro, e_fr1, e_fr2, e_wi1, e_wi2, e_re1, e_re2, e_lc, e_lcT, e_lctt, e_lctf, e_slL, e_slo, e_oNo, e_oS, e_oso, e_cut1, e_rev, e_rvo, e_ch, e_cht, e_chf, e_six, e_sxo, e_ixs, e_lens, e_lsts, e_lstl, e_lstt, e_pow, e_eqb, e_neb, e_ntb, e_isbb, e_isn, e_non, e_gt2, e_tint_non, e_tint_bl, e_tint_int, e_tint_str, e_tint_tup, e_tint_lst, e_tint_scr, e_tbool_non, e_tbool_bl, e_tbool_int, e_tbool_str, e_tbool_tup, e_tbool_lst, e_tbool_scr, e_tstr_non, e_tstr_bl, e_tstr_int, e_tstr_str, e_tstr_tup, e_tstr_lst, e_tstr_scr, e_ttuple_non, e_ttuple_bl, e_ttuple_int, e_ttuple_str, e_ttuple_tup, e_ttuple_lst, e_ttuple_scr, e_tlist_non, e_tlist_bl, e_tlist_int, e_tlist_str, e_tlist_tup, e_tlist_lst, e_tlist_scr, e_forn, e_fcn, e_fcr, e_fcc, e_fcb, e_revT, e_rvT, e_lr, e_tr, e_rg1, e_rg2, e_rgo1, e_rg2o, e_en, e_enl, e_ent, e_zp, e_zpl, e_zpt, e_isi2, e_catT, e_catL, e_aug, e_ago, e_agn, e_meth1, e_meo, e_apd, e_dc, e_dcT, e_dctt, e_dctf, e_koi, e_kos, e_dg, e_augix, e_aug2, e_sl, e_sl2l, e_sl2t, e_repT, e_repL, e_yes, e_add, e_sub, e_mul, e_fdiv, e_mod, e_cmp, e_neg, e_ixt, e_ixl, e_at0, e_at1, e_at2, e_at3, e_eqi, e_nei, e_abs, e_int, e_intb, e_lenl, e_lent, e_tupl, e_tupt, e_can4, e_gtn, e_fori, e_fio, e_setdc, e_sdco, e_get2, e_isdk, e_geto, e_gtos, e_gton, e_newd, e_disp1, e_parok, e_parov, e_parvo, e_paroo, e_indc, e_nindc, e_max2, e_min2, e_meth0, e_me0, items_nil, items_cons, keyD_i, e_ch3, e_c3t, e_c3f, e_rgd2, e_rgv, e_rgvo, e_gsub, e_sub2, e_index, e_isl, e_lc2, bne_self_eq_false, beq_self_eq_true, Nat.reduceBEq, Nat.reduceEqDiff, List.length_cons, List.length_nil, Bool.and_true, Bool.true_and, lo1, lo2, lo3, lo4, lo5, decide_true, decide_false, fino2_r, fino_r, outo_r, outo_n, List.set_cons_zero, List.set_cons_succ, fino_n, Bool.not_true, Bool.not_false, e_apd, List.length_map, decide_eq_true (show s.length < 16777216 by omega), ap, ba, half_sh, il, ia])]
        exact ih
      · rw [if_neg lt] at e; cases e
theorem law_true (ns : List Int) (h : ns.length ≤ 63) : den_law [.scr (ns.map D.int)] = some (.bl true) := by
  have hl0 : lineOk ns.length = true := decide_eq_true (by omega)
  have e0 : den__law_draws [.scr (ns.map D.int)] = some (.lst [.lst (ns.map D.int), .int 0, .int 0, .int 1]) := by
    show fino2 (m__law_draws [some (.v (.scr (ns.map D.int)))]) = _
    unfold m__law_draws
    simp -implicitDefEqProofs only [e_bdo, e_bdn, e_bd, e_ob, e_obn, e_grt, e_grf, e_set0, e_setS, e_can0, e_can1, e_can2, e_can3, e_canS, e_own0, e_ownS, e_iol0, e_iolS, e_gt0, e_gtS, e_var, e_rdv, e_rdo, e_c, e_drv, e_drs, e_drov, e_droo, e_tvv, e_tvs, e_tvov, e_tvoo, e_tvl0, e_tvl1, e_drl0, e_drl1, e_m2, e_m2F, e_m1, e_mT, e_tbo, e_mFr, e_nil, e_cons, e_mB, e_mBF, e_tup, e_lst, e_call, e_callF, e_callIO, e_ioo, e_and, e_andt, e_andf, e_or, e_ort, e_orf, e_not, e_noto, e_bot, e_bof, e_if, e_tand, e_tor, e_tnot, e_isi, e_seq, e_seqn, e_seqr, e_seqb, e_seqc, e_seqo, e_snil, e_sno, e_sif, e_ift, e_iff, e_set, e_setF, e_ret, e_expr, e_gvar, e_par, e_par2, e_par3o, e_par3, e_gtup, e_gcons, e_gnil, e_for, e_sq, e_sql, e_sqt, e_r1, e_rgo, e_r2, e_rgo2, e_frn, e_frv, e_fro, e_fr1, e_fr2, e_wi1, e_wi2, e_re1, e_re2, e_lc, e_lcT, e_lctt, e_lctf, e_slL, e_slo, e_oNo, e_oS, e_oso, e_cut1, e_rev, e_rvo, e_ch, e_cht, e_chf, e_six, e_sxo, e_ixs, e_lens, e_lsts, e_lstl, e_lstt, e_pow, e_eqb, e_neb, e_ntb, e_isbb, e_isn, e_non, e_gt2, e_tint_non, e_tint_bl, e_tint_int, e_tint_str, e_tint_tup, e_tint_lst, e_tint_scr, e_tbool_non, e_tbool_bl, e_tbool_int, e_tbool_str, e_tbool_tup, e_tbool_lst, e_tbool_scr, e_tstr_non, e_tstr_bl, e_tstr_int, e_tstr_str, e_tstr_tup, e_tstr_lst, e_tstr_scr, e_ttuple_non, e_ttuple_bl, e_ttuple_int, e_ttuple_str, e_ttuple_tup, e_ttuple_lst, e_ttuple_scr, e_tlist_non, e_tlist_bl, e_tlist_int, e_tlist_str, e_tlist_tup, e_tlist_lst, e_tlist_scr, e_forn, e_fcn, e_fcr, e_fcc, e_fcb, e_revT, e_rvT, e_lr, e_tr, e_rg1, e_rg2, e_rgo1, e_rg2o, e_en, e_enl, e_ent, e_zp, e_zpl, e_zpt, e_isi2, e_catT, e_catL, e_aug, e_ago, e_agn, e_meth1, e_meo, e_apd, e_dc, e_dcT, e_dctt, e_dctf, e_koi, e_kos, e_dg, e_augix, e_aug2, e_sl, e_sl2l, e_sl2t, e_repT, e_repL, e_yes, e_add, e_sub, e_mul, e_fdiv, e_mod, e_cmp, e_neg, e_ixt, e_ixl, e_at0, e_at1, e_at2, e_at3, e_eqi, e_nei, e_abs, e_int, e_intb, e_lenl, e_lent, e_tupl, e_tupt, e_can4, e_gtn, e_fori, e_fio, e_setdc, e_sdco, e_get2, e_isdk, e_geto, e_gtos, e_gton, e_newd, e_disp1, e_parok, e_parov, e_parvo, e_paroo, e_indc, e_nindc, e_max2, e_min2, e_meth0, e_me0, items_nil, items_cons, keyD_i, e_ch3, e_c3t, e_c3f, e_rgd2, e_rgv, e_rgvo, e_gsub, e_sub2, e_index, e_isl, e_lc2, bne_self_eq_false, beq_self_eq_true, Nat.reduceBEq, Nat.reduceEqDiff, List.length_cons, List.length_nil, Bool.and_true, Bool.true_and, lo1, lo2, lo3, lo4, lo5, decide_true, decide_false, fino2_r, fino_r, outo_r, outo_n, List.set_cons_zero, List.set_cons_succ, fino_n, Bool.not_true, Bool.not_false]
  have g0 : Drw (.lst [.lst (ns.map D.int), .int 0, .int 0, .int 1]) := ⟨ns, 0, 0, 1, rfl, by decide, by decide, by decide⟩
  have s0 : (sSetF 1 (mCallF den__law_draws (lCons (mVar 0) lNil))) [some (.v (.scr (ns.map D.int))), none, none, none, none, none, none, none, none, none, none, none, none, none, none] = some (.nx [some (.v (.scr (ns.map D.int))), some (.o false (.lst [.lst (ns.map D.int), .int 0, .int 0, .int 1])), none, none, none, none, none, none, none, none, none, none, none, none, none]) := by simp -implicitDefEqProofs only [e_bdo, e_bdn, e_bd, e_ob, e_obn, e_grt, e_grf, e_set0, e_setS, e_can0, e_can1, e_can2, e_can3, e_canS, e_own0, e_ownS, e_iol0, e_iolS, e_gt0, e_gtS, e_var, e_rdv, e_rdo, e_c, e_drv, e_drs, e_drov, e_droo, e_tvv, e_tvs, e_tvov, e_tvoo, e_tvl0, e_tvl1, e_drl0, e_drl1, e_m2, e_m2F, e_m1, e_mT, e_tbo, e_mFr, e_nil, e_cons, e_mB, e_mBF, e_tup, e_lst, e_call, e_callF, e_callIO, e_ioo, e_and, e_andt, e_andf, e_or, e_ort, e_orf, e_not, e_noto, e_bot, e_bof, e_if, e_tand, e_tor, e_tnot, e_isi, e_seq, e_seqn, e_seqr, e_seqb, e_seqc, e_seqo, e_snil, e_sno, e_sif, e_ift, e_iff, e_set, e_setF, e_ret, e_expr, e_gvar, e_par, e_par2, e_par3o, e_par3, e_gtup, e_gcons, e_gnil, e_for, e_sq, e_sql, e_sqt, e_r1, e_rgo, e_r2, e_rgo2, e_frn, e_frv, e_fro, e_fr1, e_fr2, e_wi1, e_wi2, e_re1, e_re2, e_lc, e_lcT, e_lctt, e_lctf, e_slL, e_slo, e_oNo, e_oS, e_oso, e_cut1, e_rev, e_rvo, e_ch, e_cht, e_chf, e_six, e_sxo, e_ixs, e_lens, e_lsts, e_lstl, e_lstt, e_pow, e_eqb, e_neb, e_ntb, e_isbb, e_isn, e_non, e_gt2, e_tint_non, e_tint_bl, e_tint_int, e_tint_str, e_tint_tup, e_tint_lst, e_tint_scr, e_tbool_non, e_tbool_bl, e_tbool_int, e_tbool_str, e_tbool_tup, e_tbool_lst, e_tbool_scr, e_tstr_non, e_tstr_bl, e_tstr_int, e_tstr_str, e_tstr_tup, e_tstr_lst, e_tstr_scr, e_ttuple_non, e_ttuple_bl, e_ttuple_int, e_ttuple_str, e_ttuple_tup, e_ttuple_lst, e_ttuple_scr, e_tlist_non, e_tlist_bl, e_tlist_int, e_tlist_str, e_tlist_tup, e_tlist_lst, e_tlist_scr, e_forn, e_fcn, e_fcr, e_fcc, e_fcb, e_revT, e_rvT, e_lr, e_tr, e_rg1, e_rg2, e_rgo1, e_rg2o, e_en, e_enl, e_ent, e_zp, e_zpl, e_zpt, e_isi2, e_catT, e_catL, e_aug, e_ago, e_agn, e_meth1, e_meo, e_apd, e_dc, e_dcT, e_dctt, e_dctf, e_koi, e_kos, e_dg, e_augix, e_aug2, e_sl, e_sl2l, e_sl2t, e_repT, e_repL, e_yes, e_add, e_sub, e_mul, e_fdiv, e_mod, e_cmp, e_neg, e_ixt, e_ixl, e_at0, e_at1, e_at2, e_at3, e_eqi, e_nei, e_abs, e_int, e_intb, e_lenl, e_lent, e_tupl, e_tupt, e_can4, e_gtn, e_fori, e_fio, e_setdc, e_sdco, e_get2, e_isdk, e_geto, e_gtos, e_gton, e_newd, e_disp1, e_parok, e_parov, e_parvo, e_paroo, e_indc, e_nindc, e_max2, e_min2, e_meth0, e_me0, items_nil, items_cons, keyD_i, e_ch3, e_c3t, e_c3f, e_rgd2, e_rgv, e_rgvo, e_gsub, e_sub2, e_index, e_isl, e_lc2, bne_self_eq_false, beq_self_eq_true, Nat.reduceBEq, Nat.reduceEqDiff, List.length_cons, List.length_nil, Bool.and_true, Bool.true_and, lo1, lo2, lo3, lo4, lo5, decide_true, decide_false, fino2_r, fino_r, outo_r, outo_n, List.set_cons_zero, List.set_cons_succ, fino_n, Bool.not_true, Bool.not_false, e0]
  obtain ⟨ρ, f1, ⟨d4, x3, x4, x5, x6, x7, x8, x9, x10, w2, g4, rfl⟩⟩ := for_inv (g := gVar 2) (b := (sSeq (sSet (gVar 3) (m2 addI (mC (.int 2)) (mCallIO den__law_draw 1 (lCons (mC (.int 2)) lNil)))) (sSeq (sSet (gVar 4) (m2 addI (mC (.int 2)) (mCallIO den__law_draw 1 (lCons (eIf (mT (m2 eqD (mVar 3) (mC (.int 2)))) (mC (.int 4)) (mC (.int 2))) lNil)))) (sSeq (sSet (gVar 6) (mB tupD (lCons (mFr (mLc (iRange1 (mVar 4)) (gVar 5) tYes' (mCallIO den__law_draw 1 (lCons (mVar 3) lNil)) [5])) lNil))) (sSeq (sSet (gTup' 2 (gCons' (gVar 7) (gCons' (gVar 8) gNil'))) (mCall den_best_answer (lCons (mVar 3) (lCons (mVar 6) lNil)))) (sSeq (sIf (tOr' (mT (m2 neD (mB lenD (lCons (mVar 7) lNil)) (mVar 4))) (tOr' (mT (m2 eqD (mVar 7) (mVar 6))) (tNot' (mT (mCall (den__law_same 4) (lCons (m2 ixD (mCall den_race (lCons (mCall den_fair (lCons (mVar 3) lNil)) (lCons (mTup (lCons (mVar 7) (lCons (mVar 6) lNil))) lNil))) (mC (.int 0))) (lCons (mTup (lCons (mVar 8) (lCons (m2 ixD (mCall den_odds (lCons (mVar 3) (lCons (mVar 6) (lCons (mVar 7) lNil)))) (mC (.int 0))) lNil))) lNil))))))) (sRet (mC (.bl false))) sNil) (sSeq (sSet (gVar 9) (mB tupD (lCons (mFr (mLc (iRange1 (mVar 4)) (gVar 5) tYes' (mCallIO den__law_draw 1 (lCons (mVar 3) lNil)) [5])) lNil))) (sSeq (sIf (mT (m2 neD (mVar 9) (mVar 6))) (sSeq (sSet (gVar 10) (m2 ixD (m2 ixD (mCall den_race (lCons (mCall den_fair (lCons (mVar 3) lNil)) (lCons (mTup (lCons (mVar 9) (lCons (mVar 6) lNil))) lNil))) (mC (.int 0))) (mC (.int 0)))) (sIf (tOr' (mT (mCall den_is_less (lCons (mVar 8) (lCons (mVar 10) lNil)))) (tNot' (mT (mCall (den__law_same 4) (lCons (mFr (mLst (lCons (m2 ixD (mCall den_odds (lCons (mVar 3) (lCons (mVar 9) (lCons (mVar 6) lNil)))) (mC (.int 0))) (lCons (mCall den_is_answer (lCons (mVar 3) (lCons (mVar 6) (lCons (mVar 9) lNil)))) lNil)))) (lCons (mFr (mLst (lCons (mVar 10) (lCons (mCall den_is_less (lCons (mTup (lCons (mC (.int 1)) (lCons (mC (.int 2)) lNil))) (lCons (mVar 10) lNil))) lNil)))) lNil)))))) (sRet (mC (.bl false))) sNil)) sNil) (sSeq (sIf (tNot' (mT (mCall (den__law_same 4) (lCons (mCall den_is_answer (lCons (mVar 3) (lCons (mVar 6) (lCons (mVar 7) lNil)))) (lCons (mCall den_is_less (lCons (mTup (lCons (mC (.int 1)) (lCons (mC (.int 2)) lNil))) (lCons (mVar 8) lNil))) lNil))))) (sRet (mC (.bl false))) sNil) (sIf (tOr' (mT (m2 notB (mCall den_is_answer (lCons (mVar 3) (lCons (mVar 6) (lCons (m2 catT (mVar 7) (mTup (lCons (mC (.int 0)) lNil))) lNil)))) (mC (.bl false)))) (mT (m2 notB (mCall den_has_part (lCons (m2 catT (mVar 7) (mVar 6)) (lCons (mVar 6) lNil))) (mC (.bl true))))) (sRet (mC (.bl false))) sNil)))))))))) (fun ρ => ∃ d4 x3 x4 x5 x6 x7 x8 x9 x10 w2, Drw d4 ∧ ρ = [some (.v (.scr (ns.map D.int))), some (.o false d4), ov w2, ov x3, ov x4, ov x5, ov x6, ov x7, ov x8, ov x9, ov x10, none, none, none, none]) (ds := rngL 0 3) (ρ := [some (.v (.scr (ns.map D.int))), some (.o false (.lst [.lst (ns.map D.int), .int 0, .int 0, .int 1])), none, none, none, none, none, none, none, none, none, none, none, none, none]) ⟨_, none, none, none, none, none, none, none, none, none, g0, rfl⟩ (fun d hd ρ ⟨d4, x3, x4, x5, x6, x7, x8, x9, x10, w2, g4, e⟩ => by
    subst e
    obtain ⟨d5, y3, y4, y5, y6, y7, y8, y9, y10, g5, e5⟩ := turn_ok g4 (o0 := some (.v (.scr (ns.map D.int)))) (o2 := some (.v d)) (o11 := none) (o12 := none) (o13 := none) (o14 := none) (x3 := x3) (x4 := x4) (x5 := x5) (x6 := x6) (x7 := x7) (x8 := x8) (x9 := x9) (x10 := x10)
    exact ⟨_, _, by simp -implicitDefEqProofs only [e_bdo, e_bdn, e_bd, e_ob, e_obn, e_grt, e_grf, e_set0, e_setS, e_can0, e_can1, e_can2, e_can3, e_canS, e_own0, e_ownS, e_iol0, e_iolS, e_gt0, e_gtS, e_var, e_rdv, e_rdo, e_c, e_drv, e_drs, e_drov, e_droo, e_tvv, e_tvs, e_tvov, e_tvoo, e_tvl0, e_tvl1, e_drl0, e_drl1, e_m2, e_m2F, e_m1, e_mT, e_tbo, e_mFr, e_nil, e_cons, e_mB, e_mBF, e_tup, e_lst, e_call, e_callF, e_callIO, e_ioo, e_and, e_andt, e_andf, e_or, e_ort, e_orf, e_not, e_noto, e_bot, e_bof, e_if, e_tand, e_tor, e_tnot, e_isi, e_seq, e_seqn, e_seqr, e_seqb, e_seqc, e_seqo, e_snil, e_sno, e_sif, e_ift, e_iff, e_set, e_setF, e_ret, e_expr, e_gvar, e_par, e_par2, e_par3o, e_par3, e_gtup, e_gcons, e_gnil, e_for, e_sq, e_sql, e_sqt, e_r1, e_rgo, e_r2, e_rgo2, e_frn, e_frv, e_fro, e_fr1, e_fr2, e_wi1, e_wi2, e_re1, e_re2, e_lc, e_lcT, e_lctt, e_lctf, e_slL, e_slo, e_oNo, e_oS, e_oso, e_cut1, e_rev, e_rvo, e_ch, e_cht, e_chf, e_six, e_sxo, e_ixs, e_lens, e_lsts, e_lstl, e_lstt, e_pow, e_eqb, e_neb, e_ntb, e_isbb, e_isn, e_non, e_gt2, e_tint_non, e_tint_bl, e_tint_int, e_tint_str, e_tint_tup, e_tint_lst, e_tint_scr, e_tbool_non, e_tbool_bl, e_tbool_int, e_tbool_str, e_tbool_tup, e_tbool_lst, e_tbool_scr, e_tstr_non, e_tstr_bl, e_tstr_int, e_tstr_str, e_tstr_tup, e_tstr_lst, e_tstr_scr, e_ttuple_non, e_ttuple_bl, e_ttuple_int, e_ttuple_str, e_ttuple_tup, e_ttuple_lst, e_ttuple_scr, e_tlist_non, e_tlist_bl, e_tlist_int, e_tlist_str, e_tlist_tup, e_tlist_lst, e_tlist_scr, e_forn, e_fcn, e_fcr, e_fcc, e_fcb, e_revT, e_rvT, e_lr, e_tr, e_rg1, e_rg2, e_rgo1, e_rg2o, e_en, e_enl, e_ent, e_zp, e_zpl, e_zpt, e_isi2, e_catT, e_catL, e_aug, e_ago, e_agn, e_meth1, e_meo, e_apd, e_dc, e_dcT, e_dctt, e_dctf, e_koi, e_kos, e_dg, e_augix, e_aug2, e_sl, e_sl2l, e_sl2t, e_repT, e_repL, e_yes, e_add, e_sub, e_mul, e_fdiv, e_mod, e_cmp, e_neg, e_ixt, e_ixl, e_at0, e_at1, e_at2, e_at3, e_eqi, e_nei, e_abs, e_int, e_intb, e_lenl, e_lent, e_tupl, e_tupt, e_can4, e_gtn, e_fori, e_fio, e_setdc, e_sdco, e_get2, e_isdk, e_geto, e_gtos, e_gton, e_newd, e_disp1, e_parok, e_parov, e_parvo, e_paroo, e_indc, e_nindc, e_max2, e_min2, e_meth0, e_me0, items_nil, items_cons, keyD_i, e_ch3, e_c3t, e_c3f, e_rgd2, e_rgv, e_rgvo, e_gsub, e_sub2, e_index, e_isl, e_lc2, bne_self_eq_false, beq_self_eq_true, Nat.reduceBEq, Nat.reduceEqDiff, List.length_cons, List.length_nil, Bool.and_true, Bool.true_and, lo1, lo2, lo3, lo4, lo5, decide_true, decide_false, fino2_r, fino_r, outo_r, outo_n, List.set_cons_zero, List.set_cons_succ, fino_n, Bool.not_true, Bool.not_false], e5, d5, y3, y4, y5, y6, y7, y8, y9, y10, some d, g5, rfl⟩)
  have s1 : (sFor (iRange1 (mC (.int 3))) (gVar 2) (sSeq (sSet (gVar 3) (m2 addI (mC (.int 2)) (mCallIO den__law_draw 1 (lCons (mC (.int 2)) lNil)))) (sSeq (sSet (gVar 4) (m2 addI (mC (.int 2)) (mCallIO den__law_draw 1 (lCons (eIf (mT (m2 eqD (mVar 3) (mC (.int 2)))) (mC (.int 4)) (mC (.int 2))) lNil)))) (sSeq (sSet (gVar 6) (mB tupD (lCons (mFr (mLc (iRange1 (mVar 4)) (gVar 5) tYes' (mCallIO den__law_draw 1 (lCons (mVar 3) lNil)) [5])) lNil))) (sSeq (sSet (gTup' 2 (gCons' (gVar 7) (gCons' (gVar 8) gNil'))) (mCall den_best_answer (lCons (mVar 3) (lCons (mVar 6) lNil)))) (sSeq (sIf (tOr' (mT (m2 neD (mB lenD (lCons (mVar 7) lNil)) (mVar 4))) (tOr' (mT (m2 eqD (mVar 7) (mVar 6))) (tNot' (mT (mCall (den__law_same 4) (lCons (m2 ixD (mCall den_race (lCons (mCall den_fair (lCons (mVar 3) lNil)) (lCons (mTup (lCons (mVar 7) (lCons (mVar 6) lNil))) lNil))) (mC (.int 0))) (lCons (mTup (lCons (mVar 8) (lCons (m2 ixD (mCall den_odds (lCons (mVar 3) (lCons (mVar 6) (lCons (mVar 7) lNil)))) (mC (.int 0))) lNil))) lNil))))))) (sRet (mC (.bl false))) sNil) (sSeq (sSet (gVar 9) (mB tupD (lCons (mFr (mLc (iRange1 (mVar 4)) (gVar 5) tYes' (mCallIO den__law_draw 1 (lCons (mVar 3) lNil)) [5])) lNil))) (sSeq (sIf (mT (m2 neD (mVar 9) (mVar 6))) (sSeq (sSet (gVar 10) (m2 ixD (m2 ixD (mCall den_race (lCons (mCall den_fair (lCons (mVar 3) lNil)) (lCons (mTup (lCons (mVar 9) (lCons (mVar 6) lNil))) lNil))) (mC (.int 0))) (mC (.int 0)))) (sIf (tOr' (mT (mCall den_is_less (lCons (mVar 8) (lCons (mVar 10) lNil)))) (tNot' (mT (mCall (den__law_same 4) (lCons (mFr (mLst (lCons (m2 ixD (mCall den_odds (lCons (mVar 3) (lCons (mVar 9) (lCons (mVar 6) lNil)))) (mC (.int 0))) (lCons (mCall den_is_answer (lCons (mVar 3) (lCons (mVar 6) (lCons (mVar 9) lNil)))) lNil)))) (lCons (mFr (mLst (lCons (mVar 10) (lCons (mCall den_is_less (lCons (mTup (lCons (mC (.int 1)) (lCons (mC (.int 2)) lNil))) (lCons (mVar 10) lNil))) lNil)))) lNil)))))) (sRet (mC (.bl false))) sNil)) sNil) (sSeq (sIf (tNot' (mT (mCall (den__law_same 4) (lCons (mCall den_is_answer (lCons (mVar 3) (lCons (mVar 6) (lCons (mVar 7) lNil)))) (lCons (mCall den_is_less (lCons (mTup (lCons (mC (.int 1)) (lCons (mC (.int 2)) lNil))) (lCons (mVar 8) lNil))) lNil))))) (sRet (mC (.bl false))) sNil) (sIf (tOr' (mT (m2 notB (mCall den_is_answer (lCons (mVar 3) (lCons (mVar 6) (lCons (m2 catT (mVar 7) (mTup (lCons (mC (.int 0)) lNil))) lNil)))) (mC (.bl false)))) (mT (m2 notB (mCall den_has_part (lCons (m2 catT (mVar 7) (mVar 6)) (lCons (mVar 6) lNil))) (mC (.bl true))))) (sRet (mC (.bl false))) sNil)))))))))) [some (.v (.scr (ns.map D.int))), some (.o false (.lst [.lst (ns.map D.int), .int 0, .int 0, .int 1])), none, none, none, none, none, none, none, none, none, none, none, none, none] = some (.nx [some (.v (.scr (ns.map D.int))), some (.o false d4), ov w2, ov x3, ov x4, ov x5, ov x6, ov x7, ov x8, ov x9, ov x10, none, none, none, none]) := by simp -implicitDefEqProofs only [e_bdo, e_bdn, e_bd, e_ob, e_obn, e_grt, e_grf, e_set0, e_setS, e_can0, e_can1, e_can2, e_can3, e_canS, e_own0, e_ownS, e_iol0, e_iolS, e_gt0, e_gtS, e_var, e_rdv, e_rdo, e_c, e_drv, e_drs, e_drov, e_droo, e_tvv, e_tvs, e_tvov, e_tvoo, e_tvl0, e_tvl1, e_drl0, e_drl1, e_m2, e_m2F, e_m1, e_mT, e_tbo, e_mFr, e_nil, e_cons, e_mB, e_mBF, e_tup, e_lst, e_call, e_callF, e_callIO, e_ioo, e_and, e_andt, e_andf, e_or, e_ort, e_orf, e_not, e_noto, e_bot, e_bof, e_if, e_tand, e_tor, e_tnot, e_isi, e_seq, e_seqn, e_seqr, e_seqb, e_seqc, e_seqo, e_snil, e_sno, e_sif, e_ift, e_iff, e_set, e_setF, e_ret, e_expr, e_gvar, e_par, e_par2, e_par3o, e_par3, e_gtup, e_gcons, e_gnil, e_for, e_sq, e_sql, e_sqt, e_r1, e_rgo, e_r2, e_rgo2, e_frn, e_frv, e_fro, e_fr1, e_fr2, e_wi1, e_wi2, e_re1, e_re2, e_lc, e_lcT, e_lctt, e_lctf, e_slL, e_slo, e_oNo, e_oS, e_oso, e_cut1, e_rev, e_rvo, e_ch, e_cht, e_chf, e_six, e_sxo, e_ixs, e_lens, e_lsts, e_lstl, e_lstt, e_pow, e_eqb, e_neb, e_ntb, e_isbb, e_isn, e_non, e_gt2, e_tint_non, e_tint_bl, e_tint_int, e_tint_str, e_tint_tup, e_tint_lst, e_tint_scr, e_tbool_non, e_tbool_bl, e_tbool_int, e_tbool_str, e_tbool_tup, e_tbool_lst, e_tbool_scr, e_tstr_non, e_tstr_bl, e_tstr_int, e_tstr_str, e_tstr_tup, e_tstr_lst, e_tstr_scr, e_ttuple_non, e_ttuple_bl, e_ttuple_int, e_ttuple_str, e_ttuple_tup, e_ttuple_lst, e_ttuple_scr, e_tlist_non, e_tlist_bl, e_tlist_int, e_tlist_str, e_tlist_tup, e_tlist_lst, e_tlist_scr, e_forn, e_fcn, e_fcr, e_fcc, e_fcb, e_revT, e_rvT, e_lr, e_tr, e_rg1, e_rg2, e_rgo1, e_rg2o, e_en, e_enl, e_ent, e_zp, e_zpl, e_zpt, e_isi2, e_catT, e_catL, e_aug, e_ago, e_agn, e_meth1, e_meo, e_apd, e_dc, e_dcT, e_dctt, e_dctf, e_koi, e_kos, e_dg, e_augix, e_aug2, e_sl, e_sl2l, e_sl2t, e_repT, e_repL, e_yes, e_add, e_sub, e_mul, e_fdiv, e_mod, e_cmp, e_neg, e_ixt, e_ixl, e_at0, e_at1, e_at2, e_at3, e_eqi, e_nei, e_abs, e_int, e_intb, e_lenl, e_lent, e_tupl, e_tupt, e_can4, e_gtn, e_fori, e_fio, e_setdc, e_sdco, e_get2, e_isdk, e_geto, e_gtos, e_gton, e_newd, e_disp1, e_parok, e_parov, e_parvo, e_paroo, e_indc, e_nindc, e_max2, e_min2, e_meth0, e_me0, items_nil, items_cons, keyD_i, e_ch3, e_c3t, e_c3f, e_rgd2, e_rgv, e_rgvo, e_gsub, e_sub2, e_index, e_isl, e_lc2, bne_self_eq_false, beq_self_eq_true, Nat.reduceBEq, Nat.reduceEqDiff, List.length_cons, List.length_nil, Bool.and_true, Bool.true_and, lo1, lo2, lo3, lo4, lo5, decide_true, decide_false, fino2_r, fino_r, outo_r, outo_n, List.set_cons_zero, List.set_cons_succ, fino_n, Bool.not_true, Bool.not_false, e_for, show rgOk 3 = true by decide, show (3 : Int).toNat = 3 from rfl]; exact f1
  obtain ⟨v6, d6, e6, g6, a6, b6⟩ := draw_ok (L := 3) g4 (by decide) (by decide)
  obtain ⟨n, hn⟩ : ∃ n : Nat, 3 + v6 = (n : Int) := ⟨(3 + v6).toNat, by omega⟩
  have kn : KN 2 n := .inl ⟨rfl, by omega, by omega⟩
  have s2 : (sSet (gVar 4) (m2 addI (mC (.int 3)) (mCallIO den__law_draw 1 (lCons (mC (.int 3)) lNil)))) [some (.v (.scr (ns.map D.int))), some (.o false d4), ov w2, ov x3, ov x4, ov x5, ov x6, ov x7, ov x8, ov x9, ov x10, none, none, none, none] = some (.nx [some (.v (.scr (ns.map D.int))), some (.o false d6), ov w2, ov x3, some (.v (.int (n : Int))), ov x5, ov x6, ov x7, ov x8, ov x9, ov x10, none, none, none, none]) := by simp -implicitDefEqProofs only [e_bdo, e_bdn, e_bd, e_ob, e_obn, e_grt, e_grf, e_set0, e_setS, e_can0, e_can1, e_can2, e_can3, e_canS, e_own0, e_ownS, e_iol0, e_iolS, e_gt0, e_gtS, e_var, e_rdv, e_rdo, e_c, e_drv, e_drs, e_drov, e_droo, e_tvv, e_tvs, e_tvov, e_tvoo, e_tvl0, e_tvl1, e_drl0, e_drl1, e_m2, e_m2F, e_m1, e_mT, e_tbo, e_mFr, e_nil, e_cons, e_mB, e_mBF, e_tup, e_lst, e_call, e_callF, e_callIO, e_ioo, e_and, e_andt, e_andf, e_or, e_ort, e_orf, e_not, e_noto, e_bot, e_bof, e_if, e_tand, e_tor, e_tnot, e_isi, e_seq, e_seqn, e_seqr, e_seqb, e_seqc, e_seqo, e_snil, e_sno, e_sif, e_ift, e_iff, e_set, e_setF, e_ret, e_expr, e_gvar, e_par, e_par2, e_par3o, e_par3, e_gtup, e_gcons, e_gnil, e_for, e_sq, e_sql, e_sqt, e_r1, e_rgo, e_r2, e_rgo2, e_frn, e_frv, e_fro, e_fr1, e_fr2, e_wi1, e_wi2, e_re1, e_re2, e_lc, e_lcT, e_lctt, e_lctf, e_slL, e_slo, e_oNo, e_oS, e_oso, e_cut1, e_rev, e_rvo, e_ch, e_cht, e_chf, e_six, e_sxo, e_ixs, e_lens, e_lsts, e_lstl, e_lstt, e_pow, e_eqb, e_neb, e_ntb, e_isbb, e_isn, e_non, e_gt2, e_tint_non, e_tint_bl, e_tint_int, e_tint_str, e_tint_tup, e_tint_lst, e_tint_scr, e_tbool_non, e_tbool_bl, e_tbool_int, e_tbool_str, e_tbool_tup, e_tbool_lst, e_tbool_scr, e_tstr_non, e_tstr_bl, e_tstr_int, e_tstr_str, e_tstr_tup, e_tstr_lst, e_tstr_scr, e_ttuple_non, e_ttuple_bl, e_ttuple_int, e_ttuple_str, e_ttuple_tup, e_ttuple_lst, e_ttuple_scr, e_tlist_non, e_tlist_bl, e_tlist_int, e_tlist_str, e_tlist_tup, e_tlist_lst, e_tlist_scr, e_forn, e_fcn, e_fcr, e_fcc, e_fcb, e_revT, e_rvT, e_lr, e_tr, e_rg1, e_rg2, e_rgo1, e_rg2o, e_en, e_enl, e_ent, e_zp, e_zpl, e_zpt, e_isi2, e_catT, e_catL, e_aug, e_ago, e_agn, e_meth1, e_meo, e_apd, e_dc, e_dcT, e_dctt, e_dctf, e_koi, e_kos, e_dg, e_augix, e_aug2, e_sl, e_sl2l, e_sl2t, e_repT, e_repL, e_yes, e_add, e_sub, e_mul, e_fdiv, e_mod, e_cmp, e_neg, e_ixt, e_ixl, e_at0, e_at1, e_at2, e_at3, e_eqi, e_nei, e_abs, e_int, e_intb, e_lenl, e_lent, e_tupl, e_tupt, e_can4, e_gtn, e_fori, e_fio, e_setdc, e_sdco, e_get2, e_isdk, e_geto, e_gtos, e_gton, e_newd, e_disp1, e_parok, e_parov, e_parvo, e_paroo, e_indc, e_nindc, e_max2, e_min2, e_meth0, e_me0, items_nil, items_cons, keyD_i, e_ch3, e_c3t, e_c3f, e_rgd2, e_rgv, e_rgvo, e_gsub, e_sub2, e_index, e_isl, e_lc2, bne_self_eq_false, beq_self_eq_true, Nat.reduceBEq, Nat.reduceEqDiff, List.length_cons, List.length_nil, Bool.and_true, Bool.true_and, lo1, lo2, lo3, lo4, lo5, decide_true, decide_false, fino2_r, fino_r, outo_r, outo_n, List.set_cons_zero, List.set_cons_succ, fino_n, Bool.not_true, Bool.not_false, e6, hn]
  obtain ⟨w, d7, ew, hw, g7⟩ := word_draw2 (K := 2) (.inl rfl) (show n ≤ 5 by omega) g6 (o0 := some (.v (.scr (ns.map D.int)))) (o2 := ov w2) (o3 := ov x3) (o6 := ov x6) (o7 := ov x7) (o8 := ov x8) (o9 := ov x9) (o10 := ov x10) (o11 := none) (o12 := none) (o13 := none) (o14 := none) (x5 := x5) rfl
  have s3 : (sParVO 11 12 (mB tupD (lCons (mFr (mLc (iRange1 (mVar 4)) (gVar 5) tYes' (mCallIO den__law_draw 1 (lCons (mC (.int 2)) lNil)) [5])) lNil)) (mLst lNil)) [some (.v (.scr (ns.map D.int))), some (.o false d6), ov w2, ov x3, some (.v (.int (n : Int))), ov x5, ov x6, ov x7, ov x8, ov x9, ov x10, none, none, none, none] = some (.nx [some (.v (.scr (ns.map D.int))), some (.o false d7), ov w2, ov x3, some (.v (.int (n : Int))), ov x5, ov x6, ov x7, ov x8, ov x9, ov x10, some (.v (wd w)), some (.o false (.lst [])), none, none]) := by simp -implicitDefEqProofs only [e_bdo, e_bdn, e_bd, e_ob, e_obn, e_grt, e_grf, e_set0, e_setS, e_can0, e_can1, e_can2, e_can3, e_canS, e_own0, e_ownS, e_iol0, e_iolS, e_gt0, e_gtS, e_var, e_rdv, e_rdo, e_c, e_drv, e_drs, e_drov, e_droo, e_tvv, e_tvs, e_tvov, e_tvoo, e_tvl0, e_tvl1, e_drl0, e_drl1, e_m2, e_m2F, e_m1, e_mT, e_tbo, e_mFr, e_nil, e_cons, e_mB, e_mBF, e_tup, e_lst, e_call, e_callF, e_callIO, e_ioo, e_and, e_andt, e_andf, e_or, e_ort, e_orf, e_not, e_noto, e_bot, e_bof, e_if, e_tand, e_tor, e_tnot, e_isi, e_seq, e_seqn, e_seqr, e_seqb, e_seqc, e_seqo, e_snil, e_sno, e_sif, e_ift, e_iff, e_set, e_setF, e_ret, e_expr, e_gvar, e_par, e_par2, e_par3o, e_par3, e_gtup, e_gcons, e_gnil, e_for, e_sq, e_sql, e_sqt, e_r1, e_rgo, e_r2, e_rgo2, e_frn, e_frv, e_fro, e_fr1, e_fr2, e_wi1, e_wi2, e_re1, e_re2, e_lc, e_lcT, e_lctt, e_lctf, e_slL, e_slo, e_oNo, e_oS, e_oso, e_cut1, e_rev, e_rvo, e_ch, e_cht, e_chf, e_six, e_sxo, e_ixs, e_lens, e_lsts, e_lstl, e_lstt, e_pow, e_eqb, e_neb, e_ntb, e_isbb, e_isn, e_non, e_gt2, e_tint_non, e_tint_bl, e_tint_int, e_tint_str, e_tint_tup, e_tint_lst, e_tint_scr, e_tbool_non, e_tbool_bl, e_tbool_int, e_tbool_str, e_tbool_tup, e_tbool_lst, e_tbool_scr, e_tstr_non, e_tstr_bl, e_tstr_int, e_tstr_str, e_tstr_tup, e_tstr_lst, e_tstr_scr, e_ttuple_non, e_ttuple_bl, e_ttuple_int, e_ttuple_str, e_ttuple_tup, e_ttuple_lst, e_ttuple_scr, e_tlist_non, e_tlist_bl, e_tlist_int, e_tlist_str, e_tlist_tup, e_tlist_lst, e_tlist_scr, e_forn, e_fcn, e_fcr, e_fcc, e_fcb, e_revT, e_rvT, e_lr, e_tr, e_rg1, e_rg2, e_rgo1, e_rg2o, e_en, e_enl, e_ent, e_zp, e_zpl, e_zpt, e_isi2, e_catT, e_catL, e_aug, e_ago, e_agn, e_meth1, e_meo, e_apd, e_dc, e_dcT, e_dctt, e_dctf, e_koi, e_kos, e_dg, e_augix, e_aug2, e_sl, e_sl2l, e_sl2t, e_repT, e_repL, e_yes, e_add, e_sub, e_mul, e_fdiv, e_mod, e_cmp, e_neg, e_ixt, e_ixl, e_at0, e_at1, e_at2, e_at3, e_eqi, e_nei, e_abs, e_int, e_intb, e_lenl, e_lent, e_tupl, e_tupt, e_can4, e_gtn, e_fori, e_fio, e_setdc, e_sdco, e_get2, e_isdk, e_geto, e_gtos, e_gton, e_newd, e_disp1, e_parok, e_parov, e_parvo, e_paroo, e_indc, e_nindc, e_max2, e_min2, e_meth0, e_me0, items_nil, items_cons, keyD_i, e_ch3, e_c3t, e_c3f, e_rgd2, e_rgv, e_rgvo, e_gsub, e_sub2, e_index, e_isl, e_lc2, bne_self_eq_false, beq_self_eq_true, Nat.reduceBEq, Nat.reduceEqDiff, List.length_cons, List.length_nil, Bool.and_true, Bool.true_and, lo1, lo2, lo3, lo4, lo5, decide_true, decide_false, fino2_r, fino_r, outo_r, outo_n, List.set_cons_zero, List.set_cons_succ, fino_n, Bool.not_true, Bool.not_false, rgOk_of (show n < 2 ^ 62 by omega), Int.toNat_natCast, e_fro, rng_len, show lineOk n = true from decide_eq_true (by omega), ew, show lineOk 0 = true from rfl]; rfl
  have ck : chkR n = true := by
    have : n = 3 ∨ n = 4 ∨ n = 5 := by omega
    rcases this with rfl | rfl | rfl
    · exact chk_ring.1
    · exact chk_ring.2.1
    · exact chk_ring.2.2
  have ck := (Bool.and_eq_true _ _).mp (List.all_eq_true.mp ck w (mem_all hw))
  obtain ⟨r, hr, r3, rm⟩ : ∃ r, sim n 100 w [] = some r ∧ 3 + posW r.1 r.2 ≤ r.2.length ∧ r.1 ∈ r.2 := by
    have q := ck.2
    cases z : sim n 100 w [] with
    | none => rw [z] at q; cases q
    | some r =>
      rw [z] at q
      have q := (Bool.and_eq_true _ _).mp q
      exact ⟨r, rfl, of_decide_eq_true q.1, of_decide_eq_true q.2⟩
  obtain ⟨y8, y13, wr, rl, f4⟩ := ring_loop kn (o0 := some (.v (.scr (ns.map D.int)))) (o1 := some (.o false d7)) (o2 := ov w2) (o3 := ov x3) (o4 := some (.v (.int (n : Int)))) (o5 := ov x5) (o6 := ov x6) (o7 := ov x7) (o9 := ov x9) (o10 := ov x10) (o14 := none) 100 w [] r x8 none hw (by decide) hr
  have s4 : (sWhile fuelSeen (mT (m2 notInL (mVar 11) (mVar 12))) (sSeq (sExpr (mMeth1 12 appendD (mVar 11))) (sSeq (sSet (gTup' 2 (gCons' (gVar 13) (gCons' (gVar 8) gNil'))) (mCall den_best_answer (lCons (mC (.int 2)) (lCons (mVar 11) lNil)))) (sSeq (sIf (tOr' (tNot' (mT (mCall den_is_less (lCons (mTup (lCons (mC (.int 1)) (lCons (mC (.int 2)) lNil))) (lCons (mVar 8) lNil))))) (mT (m2 notB (mCall den_is_answer (lCons (mC (.int 2)) (lCons (mVar 11) (lCons (mVar 13) lNil)))) (mC (.bl true))))) (sRet (mC (.bl false))) sNil) (sSet (gVar 11) (mVar 13)))))) [some (.v (.scr (ns.map D.int))), some (.o false d7), ov w2, ov x3, some (.v (.int (n : Int))), ov x5, ov x6, ov x7, ov x8, ov x9, ov x10, some (.v (wd w)), some (.o false (.lst [])), none, none] = some (.nx [some (.v (.scr (ns.map D.int))), some (.o false d7), ov w2, ov x3, some (.v (.int (n : Int))), ov x5, ov x6, ov x7, ov y8, ov x9, ov x10, some (.v (wd r.1)), some (.o false (.lst (r.2.map wd))), ov y13, none]) := f4
  have ix := index_wd rm
  have ct := cut_from (xs := r.2.map wd) (k := posW r.1 r.2) (by rw [List.length_map]; omega)
  have s5 : (sSet (gVar 14) (mFr (mSlL (mVar 12) (oSome (mIndex (mVar 12) (mVar 11))) oNo))) [some (.v (.scr (ns.map D.int))), some (.o false d7), ov w2, ov x3, some (.v (.int (n : Int))), ov x5, ov x6, ov x7, ov y8, ov x9, ov x10, some (.v (wd r.1)), some (.o false (.lst (r.2.map wd))), ov y13, none] = some (.nx [some (.v (.scr (ns.map D.int))), some (.o false d7), ov w2, ov x3, some (.v (.int (n : Int))), ov x5, ov x6, ov x7, ov y8, ov x9, ov x10, some (.v (wd r.1)), some (.o false (.lst (r.2.map wd))), ov y13, some (.v (.lst ((r.2.map wd).drop (posW r.1 r.2))))]) := by simp -implicitDefEqProofs only [e_bdo, e_bdn, e_bd, e_ob, e_obn, e_grt, e_grf, e_set0, e_setS, e_can0, e_can1, e_can2, e_can3, e_canS, e_own0, e_ownS, e_iol0, e_iolS, e_gt0, e_gtS, e_var, e_rdv, e_rdo, e_c, e_drv, e_drs, e_drov, e_droo, e_tvv, e_tvs, e_tvov, e_tvoo, e_tvl0, e_tvl1, e_drl0, e_drl1, e_m2, e_m2F, e_m1, e_mT, e_tbo, e_mFr, e_nil, e_cons, e_mB, e_mBF, e_tup, e_lst, e_call, e_callF, e_callIO, e_ioo, e_and, e_andt, e_andf, e_or, e_ort, e_orf, e_not, e_noto, e_bot, e_bof, e_if, e_tand, e_tor, e_tnot, e_isi, e_seq, e_seqn, e_seqr, e_seqb, e_seqc, e_seqo, e_snil, e_sno, e_sif, e_ift, e_iff, e_set, e_setF, e_ret, e_expr, e_gvar, e_par, e_par2, e_par3o, e_par3, e_gtup, e_gcons, e_gnil, e_for, e_sq, e_sql, e_sqt, e_r1, e_rgo, e_r2, e_rgo2, e_frn, e_frv, e_fro, e_fr1, e_fr2, e_wi1, e_wi2, e_re1, e_re2, e_lc, e_lcT, e_lctt, e_lctf, e_slL, e_slo, e_oNo, e_oS, e_oso, e_cut1, e_rev, e_rvo, e_ch, e_cht, e_chf, e_six, e_sxo, e_ixs, e_lens, e_lsts, e_lstl, e_lstt, e_pow, e_eqb, e_neb, e_ntb, e_isbb, e_isn, e_non, e_gt2, e_tint_non, e_tint_bl, e_tint_int, e_tint_str, e_tint_tup, e_tint_lst, e_tint_scr, e_tbool_non, e_tbool_bl, e_tbool_int, e_tbool_str, e_tbool_tup, e_tbool_lst, e_tbool_scr, e_tstr_non, e_tstr_bl, e_tstr_int, e_tstr_str, e_tstr_tup, e_tstr_lst, e_tstr_scr, e_ttuple_non, e_ttuple_bl, e_ttuple_int, e_ttuple_str, e_ttuple_tup, e_ttuple_lst, e_ttuple_scr, e_tlist_non, e_tlist_bl, e_tlist_int, e_tlist_str, e_tlist_tup, e_tlist_lst, e_tlist_scr, e_forn, e_fcn, e_fcr, e_fcc, e_fcb, e_revT, e_rvT, e_lr, e_tr, e_rg1, e_rg2, e_rgo1, e_rg2o, e_en, e_enl, e_ent, e_zp, e_zpl, e_zpt, e_isi2, e_catT, e_catL, e_aug, e_ago, e_agn, e_meth1, e_meo, e_apd, e_dc, e_dcT, e_dctt, e_dctf, e_koi, e_kos, e_dg, e_augix, e_aug2, e_sl, e_sl2l, e_sl2t, e_repT, e_repL, e_yes, e_add, e_sub, e_mul, e_fdiv, e_mod, e_cmp, e_neg, e_ixt, e_ixl, e_at0, e_at1, e_at2, e_at3, e_eqi, e_nei, e_abs, e_int, e_intb, e_lenl, e_lent, e_tupl, e_tupt, e_can4, e_gtn, e_fori, e_fio, e_setdc, e_sdco, e_get2, e_isdk, e_geto, e_gtos, e_gton, e_newd, e_disp1, e_parok, e_parov, e_parvo, e_paroo, e_indc, e_nindc, e_max2, e_min2, e_meth0, e_me0, items_nil, items_cons, keyD_i, e_ch3, e_c3t, e_c3f, e_rgd2, e_rgv, e_rgvo, e_gsub, e_sub2, e_index, e_isl, e_lc2, bne_self_eq_false, beq_self_eq_true, Nat.reduceBEq, Nat.reduceEqDiff, List.length_cons, List.length_nil, Bool.and_true, Bool.true_and, lo1, lo2, lo3, lo4, lo5, decide_true, decide_false, fino2_r, fino_r, outo_r, outo_n, List.set_cons_zero, List.set_cons_succ, fino_n, Bool.not_true, Bool.not_false, ix, ct]
  have ckr : (2 : Int) ^ n ≤ ld 2 r.1 r.1 := by
    have c2 : chkR n = true := by
      have : n = 3 ∨ n = 4 ∨ n = 5 := by omega
      rcases this with rfl | rfl | rfl
      · exact chk_ring.1
      · exact chk_ring.2.1
      · exact chk_ring.2.2
    exact of_decide_eq_true ((Bool.and_eq_true _ _).mp (List.all_eq_true.mp c2 r.1 (mem_all wr))).1
  have fe := fair_eq (K := 2) (.inl rfl)
  have fe : den_fair [.int 2] = some (fairD 2) := fe
  have le := lead_eq (K := 2) (.inl rfl) (wr.wd kn) (wr.wd kn)
  have we : den_wait [fairD 2, wd r.1] = some (sh ((ld 2 r.1 r.1 : Int) : Rat)) := by
    rw [den_wait, den_of]
    show fino (m_wait [some (.v (fairD 2)), some (.v (wd r.1))]) = _
    unfold m_wait
    simp -implicitDefEqProofs only [e_bdo, e_bdn, e_bd, e_ob, e_obn, e_grt, e_grf, e_set0, e_setS, e_can0, e_can1, e_can2, e_can3, e_canS, e_own0, e_ownS, e_iol0, e_iolS, e_gt0, e_gtS, e_var, e_rdv, e_rdo, e_c, e_drv, e_drs, e_drov, e_droo, e_tvv, e_tvs, e_tvov, e_tvoo, e_tvl0, e_tvl1, e_drl0, e_drl1, e_m2, e_m2F, e_m1, e_mT, e_tbo, e_mFr, e_nil, e_cons, e_mB, e_mBF, e_tup, e_lst, e_call, e_callF, e_callIO, e_ioo, e_and, e_andt, e_andf, e_or, e_ort, e_orf, e_not, e_noto, e_bot, e_bof, e_if, e_tand, e_tor, e_tnot, e_isi, e_seq, e_seqn, e_seqr, e_seqb, e_seqc, e_seqo, e_snil, e_sno, e_sif, e_ift, e_iff, e_set, e_setF, e_ret, e_expr, e_gvar, e_par, e_par2, e_par3o, e_par3, e_gtup, e_gcons, e_gnil, e_for, e_sq, e_sql, e_sqt, e_r1, e_rgo, e_r2, e_rgo2, e_frn, e_frv, e_fro, e_fr1, e_fr2, e_wi1, e_wi2, e_re1, e_re2, e_lc, e_lcT, e_lctt, e_lctf, e_slL, e_slo, e_oNo, e_oS, e_oso, e_cut1, e_rev, e_rvo, e_ch, e_cht, e_chf, e_six, e_sxo, e_ixs, e_lens, e_lsts, e_lstl, e_lstt, e_pow, e_eqb, e_neb, e_ntb, e_isbb, e_isn, e_non, e_gt2, e_tint_non, e_tint_bl, e_tint_int, e_tint_str, e_tint_tup, e_tint_lst, e_tint_scr, e_tbool_non, e_tbool_bl, e_tbool_int, e_tbool_str, e_tbool_tup, e_tbool_lst, e_tbool_scr, e_tstr_non, e_tstr_bl, e_tstr_int, e_tstr_str, e_tstr_tup, e_tstr_lst, e_tstr_scr, e_ttuple_non, e_ttuple_bl, e_ttuple_int, e_ttuple_str, e_ttuple_tup, e_ttuple_lst, e_ttuple_scr, e_tlist_non, e_tlist_bl, e_tlist_int, e_tlist_str, e_tlist_tup, e_tlist_lst, e_tlist_scr, e_forn, e_fcn, e_fcr, e_fcc, e_fcb, e_revT, e_rvT, e_lr, e_tr, e_rg1, e_rg2, e_rgo1, e_rg2o, e_en, e_enl, e_ent, e_zp, e_zpl, e_zpt, e_isi2, e_catT, e_catL, e_aug, e_ago, e_agn, e_meth1, e_meo, e_apd, e_dc, e_dcT, e_dctt, e_dctf, e_koi, e_kos, e_dg, e_augix, e_aug2, e_sl, e_sl2l, e_sl2t, e_repT, e_repL, e_yes, e_add, e_sub, e_mul, e_fdiv, e_mod, e_cmp, e_neg, e_ixt, e_ixl, e_at0, e_at1, e_at2, e_at3, e_eqi, e_nei, e_abs, e_int, e_intb, e_lenl, e_lent, e_tupl, e_tupt, e_can4, e_gtn, e_fori, e_fio, e_setdc, e_sdco, e_get2, e_isdk, e_geto, e_gtos, e_gton, e_newd, e_disp1, e_parok, e_parov, e_parvo, e_paroo, e_indc, e_nindc, e_max2, e_min2, e_meth0, e_me0, items_nil, items_cons, keyD_i, e_ch3, e_c3t, e_c3f, e_rgd2, e_rgv, e_rgvo, e_gsub, e_sub2, e_index, e_isl, e_lc2, bne_self_eq_false, beq_self_eq_true, Nat.reduceBEq, Nat.reduceEqDiff, List.length_cons, List.length_nil, Bool.and_true, Bool.true_and, lo1, lo2, lo3, lo4, lo5, decide_true, decide_false, fino2_r, fino_r, outo_r, outo_n, List.set_cons_zero, List.set_cons_succ, fino_n, Bool.not_true, Bool.not_false, le]
  have lb := ld_bd (K := 2) (.inl rfl) (a := r.1) (b := r.1) (by have := wr.2; omega)
  have kp := kpow_lt (K := 2) (.inl rfl) (n := n) (by omega)
  have kp : (2 : Int) ^ n < 2 ^ 41 ∧ 0 < (2 : Int) ^ n := kp
  have il := is_less_eq (sz_int (a := ld 2 r.1 r.1) (k := 50) (by omega) (by decide)) (sz_int (a := (2 : Int) ^ n) (k := 50) (by omega) (by decide)) (by omega)
  have lf : decide (((ld 2 r.1 r.1 : Int) : Rat) < (((2 : Int) ^ n : Int) : Rat)) = false := by
    rw [int_one, int_one (2 ^ n), fr_lt (by decide) (by decide), Int.mul_one, Int.mul_one]
    exact decide_eq_false (by omega)
  rw [lf] at il
  have po : powOk 1 (n : Int) = true := decide_eq_true ⟨by omega, by omega, by decide⟩
  have ln : ((r.2.map wd).drop (posW r.1 r.2)).length = r.2.length - posW r.1 r.2 := by rw [List.length_drop, List.length_map]
  have s6 : (sRet (eAnd (m2 (cmpI fun i j => decide (j ≤ i)) (mB lenD (lCons (mVar 14) lNil)) (mC (.int 3))) (eNot (mCall den_is_less (lCons (mCall den_wait (lCons (mCall den_fair (lCons (mC (.int 2)) lNil)) (lCons (mVar 11) lNil))) (lCons (mTup (lCons (m2 shlI (mC (.int 1)) (mVar 4)) (lCons (mC (.int 1)) lNil))) lNil)))))) [some (.v (.scr (ns.map D.int))), some (.o false d7), ov w2, ov x3, some (.v (.int (n : Int))), ov x5, ov x6, ov x7, ov y8, ov x9, ov x10, some (.v (wd r.1)), some (.o false (.lst (r.2.map wd))), ov y13, some (.v (.lst ((r.2.map wd).drop (posW r.1 r.2))))] = some (.rt (.bl true) [some (.v (.scr (ns.map D.int))), some (.o false d7), ov w2, ov x3, some (.v (.int (n : Int))), ov x5, ov x6, ov x7, ov y8, ov x9, ov x10, some (.v (wd r.1)), some (.o false (.lst (r.2.map wd))), ov y13, some (.v (.lst ((r.2.map wd).drop (posW r.1 r.2))))]) := by
    simp -implicitDefEqProofs only [e_bdo, e_bdn, e_bd, e_ob, e_obn, e_grt, e_grf, e_set0, e_setS, e_can0, e_can1, e_can2, e_can3, e_canS, e_own0, e_ownS, e_iol0, e_iolS, e_gt0, e_gtS, e_var, e_rdv, e_rdo, e_c, e_drv, e_drs, e_drov, e_droo, e_tvv, e_tvs, e_tvov, e_tvoo, e_tvl0, e_tvl1, e_drl0, e_drl1, e_m2, e_m2F, e_m1, e_mT, e_tbo, e_mFr, e_nil, e_cons, e_mB, e_mBF, e_tup, e_lst, e_call, e_callF, e_callIO, e_ioo, e_and, e_andt, e_andf, e_or, e_ort, e_orf, e_not, e_noto, e_bot, e_bof, e_if, e_tand, e_tor, e_tnot, e_isi, e_seq, e_seqn, e_seqr, e_seqb, e_seqc, e_seqo, e_snil, e_sno, e_sif, e_ift, e_iff, e_set, e_setF, e_ret, e_expr, e_gvar, e_par, e_par2, e_par3o, e_par3, e_gtup, e_gcons, e_gnil, e_for, e_sq, e_sql, e_sqt, e_r1, e_rgo, e_r2, e_rgo2, e_frn, e_frv, e_fro, e_fr1, e_fr2, e_wi1, e_wi2, e_re1, e_re2, e_lc, e_lcT, e_lctt, e_lctf, e_slL, e_slo, e_oNo, e_oS, e_oso, e_cut1, e_rev, e_rvo, e_ch, e_cht, e_chf, e_six, e_sxo, e_ixs, e_lens, e_lsts, e_lstl, e_lstt, e_pow, e_eqb, e_neb, e_ntb, e_isbb, e_isn, e_non, e_gt2, e_tint_non, e_tint_bl, e_tint_int, e_tint_str, e_tint_tup, e_tint_lst, e_tint_scr, e_tbool_non, e_tbool_bl, e_tbool_int, e_tbool_str, e_tbool_tup, e_tbool_lst, e_tbool_scr, e_tstr_non, e_tstr_bl, e_tstr_int, e_tstr_str, e_tstr_tup, e_tstr_lst, e_tstr_scr, e_ttuple_non, e_ttuple_bl, e_ttuple_int, e_ttuple_str, e_ttuple_tup, e_ttuple_lst, e_ttuple_scr, e_tlist_non, e_tlist_bl, e_tlist_int, e_tlist_str, e_tlist_tup, e_tlist_lst, e_tlist_scr, e_forn, e_fcn, e_fcr, e_fcc, e_fcb, e_revT, e_rvT, e_lr, e_tr, e_rg1, e_rg2, e_rgo1, e_rg2o, e_en, e_enl, e_ent, e_zp, e_zpl, e_zpt, e_isi2, e_catT, e_catL, e_aug, e_ago, e_agn, e_meth1, e_meo, e_apd, e_dc, e_dcT, e_dctt, e_dctf, e_koi, e_kos, e_dg, e_augix, e_aug2, e_sl, e_sl2l, e_sl2t, e_repT, e_repL, e_yes, e_add, e_sub, e_mul, e_fdiv, e_mod, e_cmp, e_neg, e_ixt, e_ixl, e_at0, e_at1, e_at2, e_at3, e_eqi, e_nei, e_abs, e_int, e_intb, e_lenl, e_lent, e_tupl, e_tupt, e_can4, e_gtn, e_fori, e_fio, e_setdc, e_sdco, e_get2, e_isdk, e_geto, e_gtos, e_gton, e_newd, e_disp1, e_parok, e_parov, e_parvo, e_paroo, e_indc, e_nindc, e_max2, e_min2, e_meth0, e_me0, items_nil, items_cons, keyD_i, e_ch3, e_c3t, e_c3f, e_rgd2, e_rgv, e_rgvo, e_gsub, e_sub2, e_index, e_isl, e_lc2, bne_self_eq_false, beq_self_eq_true, Nat.reduceBEq, Nat.reduceEqDiff, List.length_cons, List.length_nil, Bool.and_true, Bool.true_and, lo1, lo2, lo3, lo4, lo5, decide_true, decide_false, fino2_r, fino_r, outo_r, outo_n, List.set_cons_zero, List.set_cons_succ, fino_n, Bool.not_true, Bool.not_false, ln, decide_eq_true (show (3 : Int) ≤ ((r.2.length - posW r.1 r.2 : Nat) : Int) by omega), fe, we, po, e_shl, Int.one_mul, Int.toNat_natCast, sh_int, il]
  rw [den_law, den_of]
  show fino (m_law [some (.v (.scr (ns.map D.int))), none, none, none, none, none, none, none, none, none, none, none, none, none, none]) = _
  unfold m_law
  rw [e_seq, s0, e_seqn]
  rw [e_seq, s1, e_seqn]
  rw [e_seq, s2, e_seqn]
  rw [e_seq, s3, e_seqn]
  rw [e_seq, s4, e_seqn]
  rw [e_seq, s5, e_seqn]
  rw [s6]
  rfl

theorem fin_mk {K : PySem.W.Frag} {h : Heap} {mg : Str → Option Value} {fa : Addr} (hmg : mg "law" = some (.ref fa)) (X : K.In h) (G : h.Ns mainGlobals mg)
    {f0 : Addr} {od0 an0 : Option Addr} {sl0 : Array (Option Value)} {oc0 kV0 dc0 pm0 cd0 ct0 : Value}
    (a0 : PySem.W.nsIn K mainGlobals "is_whole" = some (some (.ref f0))) (l0 : K.lookup f0 = some ⟨oc0, od0, .func (PySem.W.fnOf "is_whole" "is_whole" (defArgs (topS 6)) (defBody (topS 6)) (defScope (topS 6)) .none kV0 dc0 pm0 an0 cd0 ct0), sl0⟩) (c0 : PySem.W.codeIn K cd0 "is_whole" = true) (k0 : PySem.W.keepIn K (.ref f0) = true)
    {f1 : Addr} {od1 an1 : Option Addr} {sl1 : Array (Option Value)} {oc1 kV1 dc1 pm1 cd1 ct1 : Value}
    (a1 : PySem.W.nsIn K mainGlobals "divisor" = some (some (.ref f1))) (l1 : K.lookup f1 = some ⟨oc1, od1, .func (PySem.W.fnOf "divisor" "divisor" (defArgs (topS 7)) (defBody (topS 7)) (defScope (topS 7)) .none kV1 dc1 pm1 an1 cd1 ct1), sl1⟩) (c1 : PySem.W.codeIn K cd1 "divisor" = true) (k1 : PySem.W.keepIn K (.ref f1) = true)
    {f2 : Addr} {od2 an2 : Option Addr} {sl2 : Array (Option Value)} {oc2 kV2 dc2 pm2 cd2 ct2 : Value}
    (a2 : PySem.W.nsIn K mainGlobals "low" = some (some (.ref f2))) (l2 : K.lookup f2 = some ⟨oc2, od2, .func (PySem.W.fnOf "low" "low" (defArgs (topS 8)) (defBody (topS 8)) (defScope (topS 8)) .none kV2 dc2 pm2 an2 cd2 ct2), sl2⟩) (c2 : PySem.W.codeIn K cd2 "low" = true) (k2 : PySem.W.keepIn K (.ref f2) = true)
    {f3 : Addr} {od3 an3 : Option Addr} {sl3 : Array (Option Value)} {oc3 kV3 dc3 pm3 cd3 ct3 : Value}
    (a3 : PySem.W.nsIn K mainGlobals "is_share" = some (some (.ref f3))) (l3 : K.lookup f3 = some ⟨oc3, od3, .func (PySem.W.fnOf "is_share" "is_share" (defArgs (topS 9)) (defBody (topS 9)) (defScope (topS 9)) .none kV3 dc3 pm3 an3 cd3 ct3), sl3⟩) (c3 : PySem.W.codeIn K cd3 "is_share" = true) (k3 : PySem.W.keepIn K (.ref f3) = true)
    {f4 : Addr} {od4 an4 : Option Addr} {sl4 : Array (Option Value)} {oc4 kV4 dc4 pm4 cd4 ct4 : Value}
    (a4 : PySem.W.nsIn K mainGlobals "plus" = some (some (.ref f4))) (l4 : K.lookup f4 = some ⟨oc4, od4, .func (PySem.W.fnOf "plus" "plus" (defArgs (topS 10)) (defBody (topS 10)) (defScope (topS 10)) .none kV4 dc4 pm4 an4 cd4 ct4), sl4⟩) (c4 : PySem.W.codeIn K cd4 "plus" = true) (k4 : PySem.W.keepIn K (.ref f4) = true)
    {f5 : Addr} {od5 an5 : Option Addr} {sl5 : Array (Option Value)} {oc5 kV5 dc5 pm5 cd5 ct5 : Value}
    (a5 : PySem.W.nsIn K mainGlobals "less" = some (some (.ref f5))) (l5 : K.lookup f5 = some ⟨oc5, od5, .func (PySem.W.fnOf "less" "less" (defArgs (topS 11)) (defBody (topS 11)) (defScope (topS 11)) .none kV5 dc5 pm5 an5 cd5 ct5), sl5⟩) (c5 : PySem.W.codeIn K cd5 "less" = true) (k5 : PySem.W.keepIn K (.ref f5) = true)
    {f6 : Addr} {od6 an6 : Option Addr} {sl6 : Array (Option Value)} {oc6 kV6 dc6 pm6 cd6 ct6 : Value}
    (a6 : PySem.W.nsIn K mainGlobals "times" = some (some (.ref f6))) (l6 : K.lookup f6 = some ⟨oc6, od6, .func (PySem.W.fnOf "times" "times" (defArgs (topS 12)) (defBody (topS 12)) (defScope (topS 12)) .none kV6 dc6 pm6 an6 cd6 ct6), sl6⟩) (c6 : PySem.W.codeIn K cd6 "times" = true) (k6 : PySem.W.keepIn K (.ref f6) = true)
    {f7 : Addr} {od7 an7 : Option Addr} {sl7 : Array (Option Value)} {oc7 kV7 dc7 pm7 cd7 ct7 : Value}
    (a7 : PySem.W.nsIn K mainGlobals "over" = some (some (.ref f7))) (l7 : K.lookup f7 = some ⟨oc7, od7, .func (PySem.W.fnOf "over" "over" (defArgs (topS 13)) (defBody (topS 13)) (defScope (topS 13)) .none kV7 dc7 pm7 an7 cd7 ct7), sl7⟩) (c7 : PySem.W.codeIn K cd7 "over" = true) (k7 : PySem.W.keepIn K (.ref f7) = true)
    {f8 : Addr} {od8 an8 : Option Addr} {sl8 : Array (Option Value)} {oc8 kV8 dc8 pm8 cd8 ct8 : Value}
    (a8 : PySem.W.nsIn K mainGlobals "total" = some (some (.ref f8))) (l8 : K.lookup f8 = some ⟨oc8, od8, .func (PySem.W.fnOf "total" "total" (defArgs (topS 14)) (defBody (topS 14)) (defScope (topS 14)) .none kV8 dc8 pm8 an8 cd8 ct8), sl8⟩) (c8 : PySem.W.codeIn K cd8 "total" = true) (k8 : PySem.W.keepIn K (.ref f8) = true)
    {f9 : Addr} {od9 an9 : Option Addr} {sl9 : Array (Option Value)} {oc9 kV9 dc9 pm9 cd9 ct9 : Value}
    (a9 : PySem.W.nsIn K mainGlobals "is_less" = some (some (.ref f9))) (l9 : K.lookup f9 = some ⟨oc9, od9, .func (PySem.W.fnOf "is_less" "is_less" (defArgs (topS 15)) (defBody (topS 15)) (defScope (topS 15)) .none kV9 dc9 pm9 an9 cd9 ct9), sl9⟩) (c9 : PySem.W.codeIn K cd9 "is_less" = true) (k9 : PySem.W.keepIn K (.ref f9) = true)
    {f10 : Addr} {od10 an10 : Option Addr} {sl10 : Array (Option Value)} {oc10 kV10 dc10 pm10 cd10 ct10 : Value}
    (a10 : PySem.W.nsIn K mainGlobals "is_chance" = some (some (.ref f10))) (l10 : K.lookup f10 = some ⟨oc10, od10, .func (PySem.W.fnOf "is_chance" "is_chance" (defArgs (topS 16)) (defBody (topS 16)) (defScope (topS 16)) .none kV10 dc10 pm10 an10 cd10 ct10), sl10⟩) (c10 : PySem.W.codeIn K cd10 "is_chance" = true) (k10 : PySem.W.keepIn K (.ref f10) = true)
    {f11 : Addr} {od11 an11 : Option Addr} {sl11 : Array (Option Value)} {oc11 kV11 dc11 pm11 cd11 ct11 : Value}
    (a11 : PySem.W.nsIn K mainGlobals "are_chances" = some (some (.ref f11))) (l11 : K.lookup f11 = some ⟨oc11, od11, .func (PySem.W.fnOf "are_chances" "are_chances" (defArgs (topS 17)) (defBody (topS 17)) (defScope (topS 17)) .none kV11 dc11 pm11 an11 cd11 ct11), sl11⟩) (c11 : PySem.W.codeIn K cd11 "are_chances" = true) (k11 : PySem.W.keepIn K (.ref f11) = true)
    {f12 : Addr} {od12 an12 : Option Addr} {sl12 : Array (Option Value)} {oc12 kV12 dc12 pm12 cd12 ct12 : Value}
    (a12 : PySem.W.nsIn K mainGlobals "look_at_chances" = some (some (.ref f12))) (l12 : K.lookup f12 = some ⟨oc12, od12, .func (PySem.W.fnOf "look_at_chances" "look_at_chances" (defArgs (topS 18)) (defBody (topS 18)) (defScope (topS 18)) .none kV12 dc12 pm12 an12 cd12 ct12), sl12⟩) (c12 : PySem.W.codeIn K cd12 "look_at_chances" = true) (k12 : PySem.W.keepIn K (.ref f12) = true)
    {f13 : Addr} {od13 an13 : Option Addr} {sl13 : Array (Option Value)} {oc13 kV13 dc13 pm13 cd13 ct13 : Value}
    (a13 : PySem.W.nsIn K mainGlobals "solved" = some (some (.ref f13))) (l13 : K.lookup f13 = some ⟨oc13, od13, .func (PySem.W.fnOf "solved" "solved" (defArgs (topS 19)) (defBody (topS 19)) (defScope (topS 19)) .none kV13 dc13 pm13 an13 cd13 ct13), sl13⟩) (c13 : PySem.W.codeIn K cd13 "solved" = true) (k13 : PySem.W.keepIn K (.ref f13) = true)
    {f14 : Addr} {od14 an14 : Option Addr} {sl14 : Array (Option Value)} {oc14 kV14 dc14 pm14 cd14 ct14 : Value}
    (a14 : PySem.W.nsIn K mainGlobals "is_word" = some (some (.ref f14))) (l14 : K.lookup f14 = some ⟨oc14, od14, .func (PySem.W.fnOf "is_word" "is_word" (defArgs (topS 22)) (defBody (topS 22)) (defScope (topS 22)) .none kV14 dc14 pm14 an14 cd14 ct14), sl14⟩) (c14 : PySem.W.codeIn K cd14 "is_word" = true) (k14 : PySem.W.keepIn K (.ref f14) = true)
    {f15 : Addr} {od15 an15 : Option Addr} {sl15 : Array (Option Value)} {oc15 kV15 dc15 pm15 cd15 ct15 : Value}
    (a15 : PySem.W.nsIn K mainGlobals "look_at_word" = some (some (.ref f15))) (l15 : K.lookup f15 = some ⟨oc15, od15, .func (PySem.W.fnOf "look_at_word" "look_at_word" (defArgs (topS 23)) (defBody (topS 23)) (defScope (topS 23)) .none kV15 dc15 pm15 an15 cd15 ct15), sl15⟩) (c15 : PySem.W.codeIn K cd15 "look_at_word" = true) (k15 : PySem.W.keepIn K (.ref f15) = true)
    {f16 : Addr} {od16 an16 : Option Addr} {sl16 : Array (Option Value)} {oc16 kV16 dc16 pm16 cd16 ct16 : Value}
    (a16 : PySem.W.nsIn K mainGlobals "overlaps" = some (some (.ref f16))) (l16 : K.lookup f16 = some ⟨oc16, od16, .func (PySem.W.fnOf "overlaps" "overlaps" (defArgs (topS 24)) (defBody (topS 24)) (defScope (topS 24)) .none kV16 dc16 pm16 an16 cd16 ct16), sl16⟩) (c16 : PySem.W.codeIn K cd16 "overlaps" = true) (k16 : PySem.W.keepIn K (.ref f16) = true)
    {f17 : Addr} {od17 an17 : Option Addr} {sl17 : Array (Option Value)} {oc17 kV17 dc17 pm17 cd17 ct17 : Value}
    (a17 : PySem.W.nsIn K mainGlobals "word_share" = some (some (.ref f17))) (l17 : K.lookup f17 = some ⟨oc17, od17, .func (PySem.W.fnOf "word_share" "word_share" (defArgs (topS 25)) (defBody (topS 25)) (defScope (topS 25)) .none kV17 dc17 pm17 an17 cd17 ct17), sl17⟩) (c17 : PySem.W.codeIn K cd17 "word_share" = true) (k17 : PySem.W.keepIn K (.ref f17) = true)
    {f18 : Addr} {od18 an18 : Option Addr} {sl18 : Array (Option Value)} {oc18 kV18 dc18 pm18 cd18 ct18 : Value}
    (a18 : PySem.W.nsIn K mainGlobals "lead" = some (some (.ref f18))) (l18 : K.lookup f18 = some ⟨oc18, od18, .func (PySem.W.fnOf "lead" "lead" (defArgs (topS 26)) (defBody (topS 26)) (defScope (topS 26)) .none kV18 dc18 pm18 an18 cd18 ct18), sl18⟩) (c18 : PySem.W.codeIn K cd18 "lead" = true) (k18 : PySem.W.keepIn K (.ref f18) = true)
    {f19 : Addr} {od19 an19 : Option Addr} {sl19 : Array (Option Value)} {oc19 kV19 dc19 pm19 cd19 ct19 : Value}
    (a19 : PySem.W.nsIn K mainGlobals "wait" = some (some (.ref f19))) (l19 : K.lookup f19 = some ⟨oc19, od19, .func (PySem.W.fnOf "wait" "wait" (defArgs (topS 27)) (defBody (topS 27)) (defScope (topS 27)) .none kV19 dc19 pm19 an19 cd19 ct19), sl19⟩) (c19 : PySem.W.codeIn K cd19 "wait" = true) (k19 : PySem.W.keepIn K (.ref f19) = true)
    {f20 : Addr} {od20 an20 : Option Addr} {sl20 : Array (Option Value)} {oc20 kV20 dc20 pm20 cd20 ct20 : Value}
    (a20 : PySem.W.nsIn K mainGlobals "fair" = some (some (.ref f20))) (l20 : K.lookup f20 = some ⟨oc20, od20, .func (PySem.W.fnOf "fair" "fair" (defArgs (topS 28)) (defBody (topS 28)) (defScope (topS 28)) .none kV20 dc20 pm20 an20 cd20 ct20), sl20⟩) (c20 : PySem.W.codeIn K cd20 "fair" = true) (k20 : PySem.W.keepIn K (.ref f20) = true)
    {f21 : Addr} {od21 an21 : Option Addr} {sl21 : Array (Option Value)} {oc21 kV21 dc21 pm21 cd21 ct21 : Value}
    (a21 : PySem.W.nsIn K mainGlobals "has_part" = some (some (.ref f21))) (l21 : K.lookup f21 = some ⟨oc21, od21, .func (PySem.W.fnOf "has_part" "has_part" (defArgs (topS 30)) (defBody (topS 30)) (defScope (topS 30)) .none kV21 dc21 pm21 an21 cd21 ct21), sl21⟩) (c21 : PySem.W.codeIn K cd21 "has_part" = true) (k21 : PySem.W.keepIn K (.ref f21) = true)
    {f22 : Addr} {od22 an22 : Option Addr} {sl22 : Array (Option Value)} {oc22 kV22 dc22 pm22 cd22 ct22 : Value}
    (a22 : PySem.W.nsIn K mainGlobals "look_at_words" = some (some (.ref f22))) (l22 : K.lookup f22 = some ⟨oc22, od22, .func (PySem.W.fnOf "look_at_words" "look_at_words" (defArgs (topS 31)) (defBody (topS 31)) (defScope (topS 31)) .none kV22 dc22 pm22 an22 cd22 ct22), sl22⟩) (c22 : PySem.W.codeIn K cd22 "look_at_words" = true) (k22 : PySem.W.keepIn K (.ref f22) = true)
    {f23 : Addr} {od23 an23 : Option Addr} {sl23 : Array (Option Value)} {oc23 kV23 dc23 pm23 cd23 ct23 : Value}
    (a23 : PySem.W.nsIn K mainGlobals "race" = some (some (.ref f23))) (l23 : K.lookup f23 = some ⟨oc23, od23, .func (PySem.W.fnOf "race" "race" (defArgs (topS 32)) (defBody (topS 32)) (defScope (topS 32)) .none kV23 dc23 pm23 an23 cd23 ct23), sl23⟩) (c23 : PySem.W.codeIn K cd23 "race" = true) (k23 : PySem.W.keepIn K (.ref f23) = true)
    {f24 : Addr} {od24 an24 : Option Addr} {sl24 : Array (Option Value)} {oc24 kV24 dc24 pm24 cd24 ct24 : Value}
    (a24 : PySem.W.nsIn K mainGlobals "odds" = some (some (.ref f24))) (l24 : K.lookup f24 = some ⟨oc24, od24, .func (PySem.W.fnOf "odds" "odds" (defArgs (topS 33)) (defBody (topS 33)) (defScope (topS 33)) .none kV24 dc24 pm24 an24 cd24 ct24), sl24⟩) (c24 : PySem.W.codeIn K cd24 "odds" = true) (k24 : PySem.W.keepIn K (.ref f24) = true)
    {f25 : Addr} {od25 an25 : Option Addr} {sl25 : Array (Option Value)} {oc25 kV25 dc25 pm25 cd25 ct25 : Value}
    (a25 : PySem.W.nsIn K mainGlobals "all_words" = some (some (.ref f25))) (l25 : K.lookup f25 = some ⟨oc25, od25, .func (PySem.W.fnOf "all_words" "all_words" (defArgs (topS 34)) (defBody (topS 34)) (defScope (topS 34)) .none kV25 dc25 pm25 an25 cd25 ct25), sl25⟩) (c25 : PySem.W.codeIn K cd25 "all_words" = true) (k25 : PySem.W.keepIn K (.ref f25) = true)
    {f26 : Addr} {od26 an26 : Option Addr} {sl26 : Array (Option Value)} {oc26 kV26 dc26 pm26 cd26 ct26 : Value}
    (a26 : PySem.W.nsIn K mainGlobals "best_answer" = some (some (.ref f26))) (l26 : K.lookup f26 = some ⟨oc26, od26, .func (PySem.W.fnOf "best_answer" "best_answer" (defArgs (topS 35)) (defBody (topS 35)) (defScope (topS 35)) .none kV26 dc26 pm26 an26 cd26 ct26), sl26⟩) (c26 : PySem.W.codeIn K cd26 "best_answer" = true) (k26 : PySem.W.keepIn K (.ref f26) = true)
    {f27 : Addr} {od27 an27 : Option Addr} {sl27 : Array (Option Value)} {oc27 kV27 dc27 pm27 cd27 ct27 : Value}
    (a27 : PySem.W.nsIn K mainGlobals "is_answer" = some (some (.ref f27))) (l27 : K.lookup f27 = some ⟨oc27, od27, .func (PySem.W.fnOf "is_answer" "is_answer" (defArgs (topS 36)) (defBody (topS 36)) (defScope (topS 36)) .none kV27 dc27 pm27 an27 cd27 ct27), sl27⟩) (c27 : PySem.W.codeIn K cd27 "is_answer" = true) (k27 : PySem.W.keepIn K (.ref f27) = true)
    {f28 : Addr} {od28 an28 : Option Addr} {sl28 : Array (Option Value)} {oc28 kV28 dc28 pm28 cd28 ct28 : Value}
    (a28 : PySem.W.nsIn K mainGlobals "_law_draws" = some (some (.ref f28))) (l28 : K.lookup f28 = some ⟨oc28, od28, .func (PySem.W.fnOf "_law_draws" "_law_draws" (defArgs (topS 38)) (defBody (topS 38)) (defScope (topS 38)) .none kV28 dc28 pm28 an28 cd28 ct28), sl28⟩) (c28 : PySem.W.codeIn K cd28 "_law_draws" = true) (k28 : PySem.W.keepIn K (.ref f28) = true)
    {f29 : Addr} {od29 an29 : Option Addr} {sl29 : Array (Option Value)} {oc29 kV29 dc29 pm29 cd29 ct29 : Value}
    (a29 : PySem.W.nsIn K mainGlobals "_law_draw" = some (some (.ref f29))) (l29 : K.lookup f29 = some ⟨oc29, od29, .func (PySem.W.fnOf "_law_draw" "_law_draw" (defArgs (topS 39)) (defBody (topS 39)) (defScope (topS 39)) .none kV29 dc29 pm29 an29 cd29 ct29), sl29⟩) (c29 : PySem.W.codeIn K cd29 "_law_draw" = true) (k29 : PySem.W.keepIn K (.ref f29) = true)
    {f30 : Addr} {od30 an30 : Option Addr} {sl30 : Array (Option Value)} {oc30 kV30 dc30 pm30 cd30 ct30 : Value}
    (a30 : PySem.W.nsIn K mainGlobals "_law_same" = some (some (.ref f30))) (l30 : K.lookup f30 = some ⟨oc30, od30, .func (PySem.W.fnOf "_law_same" "_law_same" (defArgs (topS 40)) (defBody (topS 40)) (defScope (topS 40)) .none kV30 dc30 pm30 an30 cd30 ct30), sl30⟩) (c30 : PySem.W.codeIn K cd30 "_law_same" = true) (k30 : PySem.W.keepIn K (.ref f30) = true)
    {f31 : Addr} {od31 an31 : Option Addr} {sl31 : Array (Option Value)} {oc31 kV31 dc31 pm31 cd31 ct31 : Value}
    (a31 : PySem.W.nsIn K mainGlobals "law" = some (some (.ref f31))) (l31 : K.lookup f31 = some ⟨oc31, od31, .func (PySem.W.fnOf "law" "law" (defArgs (topS 41)) (defBody (topS 41)) (defScope (topS 41)) .none kV31 dc31 pm31 an31 cd31 ct31), sl31⟩) (c31 : PySem.W.codeIn K cd31 "law" = true) (k31 : PySem.W.keepIn K (.ref f31) = true)
    {tk_MOST_WORD : Tok} (n_MOST_WORD : PySem.W.nsIn K mainGlobals "MOST_WORD" = some (some (.int 40 tk_MOST_WORD)))
    (z_abs : PySem.W.nsIn K mainGlobals "abs" = some none)
    (z_all : PySem.W.nsIn K mainGlobals "all" = some none)
    (z_any : PySem.W.nsIn K mainGlobals "any" = some none)
    (z_bool : PySem.W.nsIn K mainGlobals "bool" = some none)
    (z_enumerate : PySem.W.nsIn K mainGlobals "enumerate" = some none)
    (z_int : PySem.W.nsIn K mainGlobals "int" = some none)
    (z_isinstance : PySem.W.nsIn K mainGlobals "isinstance" = some none)
    (z_len : PySem.W.nsIn K mainGlobals "len" = some none)
    (z_list : PySem.W.nsIn K mainGlobals "list" = some none)
    (z_min : PySem.W.nsIn K mainGlobals "min" = some none)
    (z_range : PySem.W.nsIn K mainGlobals "range" = some none)
    (z_str : PySem.W.nsIn K mainGlobals "str" = some none)
    (z_tuple : PySem.W.nsIn K mainGlobals "tuple" = some none)
    (z_zip : PySem.W.nsIn K mainGlobals "zip" = some none)
    : ∃ T : Txt K mg, T.f_law = fa ∧ ∃ kV dc pm an cd ct, T.d_law = PySem.W.fnOf "law" "law" (defArgs (topS 41)) (defBody (topS 41)) (defScope (topS 41)) .none kV dc pm an cd ct :=
  by
  have e := hmg.symm.trans (PySem.W.mg_of X G a31)
  cases e
  exact ⟨{ f_is_whole := _, d_is_whole := _, F_is_whole := fun_mk (st := topS 6) l0 c0 k0, g_is_whole := PySem.W.mg_of X G a0, f_divisor := _, d_divisor := _, F_divisor := fun_mk (st := topS 7) l1 c1 k1, g_divisor := PySem.W.mg_of X G a1, f_low := _, d_low := _, F_low := fun_mk (st := topS 8) l2 c2 k2, g_low := PySem.W.mg_of X G a2, f_is_share := _, d_is_share := _, F_is_share := fun_mk (st := topS 9) l3 c3 k3, g_is_share := PySem.W.mg_of X G a3, f_plus := _, d_plus := _, F_plus := fun_mk (st := topS 10) l4 c4 k4, g_plus := PySem.W.mg_of X G a4, f_less := _, d_less := _, F_less := fun_mk (st := topS 11) l5 c5 k5, g_less := PySem.W.mg_of X G a5, f_times := _, d_times := _, F_times := fun_mk (st := topS 12) l6 c6 k6, g_times := PySem.W.mg_of X G a6, f_over := _, d_over := _, F_over := fun_mk (st := topS 13) l7 c7 k7, g_over := PySem.W.mg_of X G a7, f_total := _, d_total := _, F_total := fun_mk (st := topS 14) l8 c8 k8, g_total := PySem.W.mg_of X G a8, f_is_less := _, d_is_less := _, F_is_less := fun_mk (st := topS 15) l9 c9 k9, g_is_less := PySem.W.mg_of X G a9, f_is_chance := _, d_is_chance := _, F_is_chance := fun_mk (st := topS 16) l10 c10 k10, g_is_chance := PySem.W.mg_of X G a10, f_are_chances := _, d_are_chances := _, F_are_chances := fun_mk (st := topS 17) l11 c11 k11, g_are_chances := PySem.W.mg_of X G a11, f_look_at_chances := _, d_look_at_chances := _, F_look_at_chances := fun_mk (st := topS 18) l12 c12 k12, g_look_at_chances := PySem.W.mg_of X G a12, f_solved := _, d_solved := _, F_solved := fun_mk (st := topS 19) l13 c13 k13, g_solved := PySem.W.mg_of X G a13, f_is_word := _, d_is_word := _, F_is_word := fun_mk (st := topS 22) l14 c14 k14, g_is_word := PySem.W.mg_of X G a14, f_look_at_word := _, d_look_at_word := _, F_look_at_word := fun_mk (st := topS 23) l15 c15 k15, g_look_at_word := PySem.W.mg_of X G a15, f_overlaps := _, d_overlaps := _, F_overlaps := fun_mk (st := topS 24) l16 c16 k16, g_overlaps := PySem.W.mg_of X G a16, f_word_share := _, d_word_share := _, F_word_share := fun_mk (st := topS 25) l17 c17 k17, g_word_share := PySem.W.mg_of X G a17, f_lead := _, d_lead := _, F_lead := fun_mk (st := topS 26) l18 c18 k18, g_lead := PySem.W.mg_of X G a18, f_wait := _, d_wait := _, F_wait := fun_mk (st := topS 27) l19 c19 k19, g_wait := PySem.W.mg_of X G a19, f_fair := _, d_fair := _, F_fair := fun_mk (st := topS 28) l20 c20 k20, g_fair := PySem.W.mg_of X G a20, f_has_part := _, d_has_part := _, F_has_part := fun_mk (st := topS 30) l21 c21 k21, g_has_part := PySem.W.mg_of X G a21, f_look_at_words := _, d_look_at_words := _, F_look_at_words := fun_mk (st := topS 31) l22 c22 k22, g_look_at_words := PySem.W.mg_of X G a22, f_race := _, d_race := _, F_race := fun_mk (st := topS 32) l23 c23 k23, g_race := PySem.W.mg_of X G a23, f_odds := _, d_odds := _, F_odds := fun_mk (st := topS 33) l24 c24 k24, g_odds := PySem.W.mg_of X G a24, f_all_words := _, d_all_words := _, F_all_words := fun_mk (st := topS 34) l25 c25 k25, g_all_words := PySem.W.mg_of X G a25, f_best_answer := _, d_best_answer := _, F_best_answer := fun_mk (st := topS 35) l26 c26 k26, g_best_answer := PySem.W.mg_of X G a26, f_is_answer := _, d_is_answer := _, F_is_answer := fun_mk (st := topS 36) l27 c27 k27, g_is_answer := PySem.W.mg_of X G a27, f__law_draws := _, d__law_draws := _, F__law_draws := fun_mk (st := topS 38) l28 c28 k28, g__law_draws := PySem.W.mg_of X G a28, f__law_draw := _, d__law_draw := _, F__law_draw := fun_mk (st := topS 39) l29 c29 k29, g__law_draw := PySem.W.mg_of X G a29, f__law_same := _, d__law_same := _, F__law_same := fun_mk (st := topS 40) l30 c30 k30, g__law_same := PySem.W.mg_of X G a30, f_law := _, d_law := _, F_law := fun_mk (st := topS 41) l31 c31 k31, g_law := PySem.W.mg_of X G a31, n_MOST_WORD := ⟨_, PySem.W.mg_of X G n_MOST_WORD⟩, z_abs := PySem.W.mg_none_of X G z_abs, z_all := PySem.W.mg_none_of X G z_all, z_any := PySem.W.mg_none_of X G z_any, z_bool := PySem.W.mg_none_of X G z_bool, z_enumerate := PySem.W.mg_none_of X G z_enumerate, z_int := PySem.W.mg_none_of X G z_int, z_isinstance := PySem.W.mg_none_of X G z_isinstance, z_len := PySem.W.mg_none_of X G z_len, z_list := PySem.W.mg_none_of X G z_list, z_min := PySem.W.mg_none_of X G z_min, z_range := PySem.W.mg_none_of X G z_range, z_str := PySem.W.mg_none_of X G z_str, z_tuple := PySem.W.mg_none_of X G z_tuple, z_zip := PySem.W.mg_none_of X G z_zip }, rfl, _, _, _, _, _, _, rfl⟩
end Lw
open PySem PySem.W PyProof.Rows
set_option maxRecDepth 100000 in
set_option maxHeartbeats 0 in
theorem PySem.Challenge.cw_throwstold_k96_whole_answers_and_races_holds : PySem.Challenge.rw_throwstold_k96_whole_answers_and_races.Holds := by
  w_on; o_law; k_head; (case hw => w_witness2)
  k_fill
  refine L2.walk_of (l := PySem.Challenge.rw_throwstold_k96_whole_answers_and_races) (n := 63) (k := 11) (x := "script") (CX := fun _ => L2.CX0) (sp := fun w => DL.spD _ 1 Lw.den_law) rfl (by decide) rfl ⟨rfl, by decide, by decide⟩ (fun w h Y => PySem.W.kIn_of Y) ?F (fun _ _ a ns hl _ hS => DL.spLaw (Lw.law_true ns hl) hS) (fun _ _ _ _ _ h => h)
  case F =>
    intro w mg fa h KX G hmg
    obtain ⟨T, eT, kV, dc, pm, an, cd, ct, dT⟩ : ∃ T : Lw.Txt _ mg, T.f_law = fa ∧ ∃ kV dc pm an cd ct, T.d_law = PySem.W.fnOf "law" "law" (L2.defArgs (Lw.topS 41)) (L2.defBody (Lw.topS 41)) (L2.defScope (Lw.topS 41)) .none kV dc pm an cd ct := by
      refine' Lw.fin_mk hmg KX G ?a0 ?l0 ?c0 ?k0 ?a1 ?l1 ?c1 ?k1 ?a2 ?l2 ?c2 ?k2 ?a3 ?l3 ?c3 ?k3 ?a4 ?l4 ?c4 ?k4 ?a5 ?l5 ?c5 ?k5 ?a6 ?l6 ?c6 ?k6 ?a7 ?l7 ?c7 ?k7 ?a8 ?l8 ?c8 ?k8 ?a9 ?l9 ?c9 ?k9 ?a10 ?l10 ?c10 ?k10 ?a11 ?l11 ?c11 ?k11 ?a12 ?l12 ?c12 ?k12 ?a13 ?l13 ?c13 ?k13 ?a14 ?l14 ?c14 ?k14 ?a15 ?l15 ?c15 ?k15 ?a16 ?l16 ?c16 ?k16 ?a17 ?l17 ?c17 ?k17 ?a18 ?l18 ?c18 ?k18 ?a19 ?l19 ?c19 ?k19 ?a20 ?l20 ?c20 ?k20 ?a21 ?l21 ?c21 ?k21 ?a22 ?l22 ?c22 ?k22 ?a23 ?l23 ?c23 ?k23 ?a24 ?l24 ?c24 ?k24 ?a25 ?l25 ?c25 ?k25 ?a26 ?l26 ?c26 ?k26 ?a27 ?l27 ?c27 ?k27 ?a28 ?l28 ?c28 ?k28 ?a29 ?l29 ?c29 ?k29 ?a30 ?l30 ?c30 ?k30 ?a31 ?l31 ?c31 ?k31 ?n_MOST_WORD ?z_abs ?z_all ?z_any ?z_bool ?z_enumerate ?z_int ?z_isinstance ?z_len ?z_list ?z_min ?z_range ?z_str ?z_tuple ?z_zip
      (case a0 => k_is); (case l0 => k_is); (case c0 => k_is); (case k0 => k_is); (case a1 => k_is); (case l1 => k_is); (case c1 => k_is); (case k1 => k_is); (case a2 => k_is); (case l2 => k_is); (case c2 => k_is); (case k2 => k_is); (case a3 => k_is); (case l3 => k_is); (case c3 => k_is); (case k3 => k_is); (case a4 => k_is); (case l4 => k_is); (case c4 => k_is); (case k4 => k_is); (case a5 => k_is); (case l5 => k_is); (case c5 => k_is); (case k5 => k_is); (case a6 => k_is); (case l6 => k_is); (case c6 => k_is); (case k6 => k_is); (case a7 => k_is); (case l7 => k_is); (case c7 => k_is); (case k7 => k_is); (case a8 => k_is); (case l8 => k_is); (case c8 => k_is); (case k8 => k_is); (case a9 => k_is); (case l9 => k_is); (case c9 => k_is); (case k9 => k_is); (case a10 => k_is); (case l10 => k_is); (case c10 => k_is); (case k10 => k_is); (case a11 => k_is); (case l11 => k_is); (case c11 => k_is); (case k11 => k_is); (case a12 => k_is); (case l12 => k_is); (case c12 => k_is); (case k12 => k_is); (case a13 => k_is); (case l13 => k_is); (case c13 => k_is); (case k13 => k_is); (case a14 => k_is); (case l14 => k_is); (case c14 => k_is); (case k14 => k_is); (case a15 => k_is); (case l15 => k_is); (case c15 => k_is); (case k15 => k_is); (case a16 => k_is); (case l16 => k_is); (case c16 => k_is); (case k16 => k_is); (case a17 => k_is); (case l17 => k_is); (case c17 => k_is); (case k17 => k_is); (case a18 => k_is); (case l18 => k_is); (case c18 => k_is); (case k18 => k_is); (case a19 => k_is); (case l19 => k_is); (case c19 => k_is); (case k19 => k_is); (case a20 => k_is); (case l20 => k_is); (case c20 => k_is); (case k20 => k_is); (case a21 => k_is); (case l21 => k_is); (case c21 => k_is); (case k21 => k_is); (case a22 => k_is); (case l22 => k_is); (case c22 => k_is); (case k22 => k_is); (case a23 => k_is); (case l23 => k_is); (case c23 => k_is); (case k23 => k_is); (case a24 => k_is); (case l24 => k_is); (case c24 => k_is); (case k24 => k_is); (case a25 => k_is); (case l25 => k_is); (case c25 => k_is); (case k25 => k_is); (case a26 => k_is); (case l26 => k_is); (case c26 => k_is); (case k26 => k_is); (case a27 => k_is); (case l27 => k_is); (case c27 => k_is); (case k27 => k_is); (case a28 => k_is); (case l28 => k_is); (case c28 => k_is); (case k28 => k_is); (case a29 => k_is); (case l29 => k_is); (case c29 => k_is); (case k29 => k_is); (case a30 => k_is); (case l30 => k_is); (case c30 => k_is); (case k30 => k_is); (case a31 => k_is); (case l31 => k_is); (case c31 => k_is); (case k31 => k_is); (case n_MOST_WORD => k_is); (case z_abs => k_is); (case z_all => k_is); (case z_any => k_is); (case z_bool => k_is); (case z_enumerate => k_is); (case z_int => k_is); (case z_isinstance => k_is); (case z_len => k_is); (case z_list => k_is); (case z_min => k_is); (case z_range => k_is); (case z_str => k_is); (case z_tuple => k_is); (case z_zip => k_is)
    subst eT
    refine ⟨T.d_law, fun s v => ?_, fun base _ _ => Lw.ok_law T⟩
    rw [dT]
    exact .of_eq rfl
