import PyProof.Rows.All
import Wide.All
import OpenK.AllK
import Wide.FinOn
import HandS.Base
import HandS.Call
import HandS.List
import HandS.Comp
import HandS.Ends
import HandS.Dict
import HandS.Iter
import HandS.Text
import HandS.More
import HandS.Exc
import HandS.Words
import HandS.Defaults
import HandS.Flow
import HandS.Wide
import HandS.WideBits
import HandS.Conv
import HandS.Zip
import HandS.TupAny
import HandS.TupMul
import HandS.Style
import HandS.Rev
import HandS.FStr
import HandS.HeadHook2
import PyProof.WalksMore
import HandS.IsInst
import KE.GoesEnum
import KE.GoesMore
import KE.GoesZip
import HandS.Codes
import HandS.HeadEnd
import HandS.HeadHook1
import KE.KStateDown
import HandS.Head0
import HandS.Head1
import HandS.Head2
import Lean
import PySem.Challenge.RW_willdealt_k03_whole_pennies_hang_togethe
set_option Elab.async false
set_option linter.all false
set_option maxRecDepth 100000
set_option maxHeartbeats 0
/-! Data over the hand layer: immutable things as trees, what may change by permission. -/
namespace Y
open PySem PySem.Spec PyProof.Rows L2

/-- data. tup, lst, ins, dct as values never change; ref: an object that may change (what it holds stands in the heap part), or a def; scr: the script -/
inductive D where
  | non | bl (b : Bool) | int (i : Int) | str (x : Str) | ref (a : Addr)
  | tup (ds : List D) | lst (ds : List D)
  | ins (C : Str) (ns : List Str) (ds : List D)
  | dct (ks : List Key) (ds : List D)
  | scr (is : List Int)
  deriving Inhabited
/-- what may be changed: address and content (lst, ins, dct) -/
abbrev Hd := Addr → Option D
def hupd (h : Hd) (a : Addr) (d : D) : Hd := fun b => if b = a then some d else h b
def hdel (h : Hd) (a : Addr) : Hd := fun b => if b = a then none else h b
theorem hupd_same {h : Hd} {a : Addr} {d : D} : hupd h a d a = some d := if_pos rfl
theorem hupd_ne {h : Hd} {a b : Addr} {d : D} (e : b ≠ a) : hupd h a d b = h b := if_neg e
theorem hdel_same {h : Hd} {a : Addr} : hdel h a a = none := if_pos rfl
theorem hdel_ne {h : Hd} {a b : Addr} (e : b ≠ a) : hdel h a b = h b := if_neg e
theorem hupd_hupd {h : Hd} {a : Addr} {d e : D} : hupd (hupd h a d) a e = hupd h a e := by
  funext b; unfold hupd; split <;> rfl
theorem hdel_hupd {h : Hd} {a : Addr} {d : D} (e : h a = none) : hdel (hupd h a d) a = h := by
  funext b; unfold hdel hupd
  by_cases q : b = a
  · rw [if_pos q, q, e]
  · rw [if_neg q, if_neg q]

abbrev Kn (K : PySem.W.Frag) (a : Addr) (vs : List V) : Prop :=
  ∃ (o : Obj) (its : Array Value) (n : Nat), K.lookup a = some o ∧ o.cls = .type "tuple" ∧ o.data = .seq its n ∧ its.size ≤ sizeLine ∧ Vals vs its.toList
abbrev KnL (K : PySem.W.Frag) (a : Addr) (vs : List V) : Prop :=
  ∃ (o : Obj) (its : Array Value) (n : Nat), K.lookup a = some o ∧ o.cls = .type "list" ∧ o.dict = none ∧ o.data = .seq its n ∧ its.size ≤ sizeLine ∧ Vals vs its.toList
/-- the script: read alone -/
def ScrAt (K : PySem.W.Frag) (H : Hp) (h : Hd) (a : Addr) (vs : List V) : Prop := (Rd H a (.lst vs) ∧ h a = none) ∨ KnL K a vs
mutual
inductive Rep (K : PySem.W.Frag) (H : Hp) (h : Hd) : D → V → Prop
  | non : Rep K H h .non .non
  | bl (b : Bool) : Rep K H h (.bl b) (.bl b)
  | int (i : Int) : Rep K H h (.int i) (.int i)
  | str (x : Str) : Rep K H h (.str x) (.str x)
  | ref (a : Addr) : Rep K H h (.ref a) (.ref a)
  | tup {ds : List D} {vs : List V} {a : Addr} : H a = some (.tup vs) → h a = none → Reps K H h ds vs → Rep K H h (.tup ds) (.ref a)
  | tupK {ds : List D} {vs : List V} {a : Addr} : Kn K a vs → Reps K H h ds vs → Rep K H h (.tup ds) (.ref a)
  | lst {ds : List D} {vs : List V} {a : Addr} : H a = some (.lst vs) → h a = none → Reps K H h ds vs → Rep K H h (.lst ds) (.ref a)
  | ins {C : Str} {ns : List Str} {ds : List D} {vs : List V} {a dx : Addr} : H a = some (.ins (He.ga K C) dx (ns.zip vs)) → h a = none → ns.length = vs.length → Reps K H h ds vs → Rep K H h (.ins C ns ds) (.ref a)
  | dct {ks : List Key} {ds : List D} {vs : List V} {a : Addr} : H a = some (.dK (ks.zip vs)) → h a = none → ks.length = vs.length → Reps K H h ds vs → Rep K H h (.dct ks ds) (.ref a)
  | scr {is : List Int} {a : Addr} : ScrAt K H h a (is.map V.int) → Rep K H h (.scr is) (.ref a)
inductive Reps (K : PySem.W.Frag) (H : Hp) (h : Hd) : List D → List V → Prop
  | nil : Reps K H h [] []
  | cons {d : D} {ds : List D} {v : V} {vs : List V} : Rep K H h d v → Reps K H h ds vs → Reps K H h (d :: ds) (v :: vs)
end

/-- what is kept of what may not be changed -/
structure Kp (h : Hd) (H : Hp) (h' : Hd) (H' : Hp) : Prop where
  keep : ∀ a o, H a = some o → h a = none → H' a = some o ∧ h' a = none
/-- .. and of what is put away: none may touch it -/
structure Frm (h : Hd) (H : Hp) (h' : Hd) (H' : Hp) : Prop extends Kp h H h' H' where
  hid : ∀ a, h a = some .non → h' a = some .non ∧ ∀ o, H a = some o → H' a = some o
theorem Frm.refl {h : Hd} {H : Hp} : Frm h H h H := ⟨⟨fun _ _ e n => ⟨e, n⟩⟩, fun _ e => ⟨e, fun _ q => q⟩⟩
theorem Frm.trans {h h1 h2 : Hd} {H H1 H2 : Hp} (f : Frm h H h1 H1) (g : Frm h1 H1 h2 H2) : Frm h H h2 H2 :=
  ⟨⟨fun a o e n => let ⟨e1, n1⟩ := f.keep a o e n; g.keep a o e1 n1⟩, fun a e => let ⟨e1, k1⟩ := f.hid a e; let ⟨e2, k2⟩ := g.hid a e1; ⟨e2, fun o q => k2 o (k1 o q)⟩⟩

theorem ScrAt.sqL {K : PySem.W.Frag} {H : Hp} {h : Hd} {a : Addr} {vs : List V} (x : ScrAt K H h a vs) : SqL K H a vs := by
  rcases x with ⟨x, _⟩ | x
  · exact .inl x
  · exact .inr x
theorem ScrAt.kp {K : PySem.W.Frag} {H H' : Hp} {h h' : Hd} {a : Addr} {vs : List V} (f : Kp h H h' H') (x : ScrAt K H h a vs) : ScrAt K H' h' a vs := by
  rcases x with ⟨x | ⟨o, x⟩, n⟩ | x
  · exact .inl ⟨.inl (f.keep _ _ x n).1, (f.keep _ _ x n).2⟩
  · exact .inl ⟨.inr ⟨o, (f.keep _ _ x n).1⟩, (f.keep _ _ x n).2⟩
  · exact .inr x
section
variable {K : PySem.W.Frag} {H H' : Hp} {h h' : Hd}
mutual
theorem Rep.kp (f : Kp h H h' H') : ∀ {d : D} {v : V}, Rep K H h d v → Rep K H' h' d v
  | _, _, .non => .non
  | _, _, .bl b => .bl b
  | _, _, .int i => .int i
  | _, _, .str x => .str x
  | _, _, .ref a => .ref a
  | _, _, .tup e n r => .tup (f.keep _ _ e n).1 (f.keep _ _ e n).2 (Reps.kp f r)
  | _, _, .tupK k r => .tupK k (Reps.kp f r)
  | _, _, .lst e n r => .lst (f.keep _ _ e n).1 (f.keep _ _ e n).2 (Reps.kp f r)
  | _, _, .ins e n l r => .ins (f.keep _ _ e n).1 (f.keep _ _ e n).2 l (Reps.kp f r)
  | _, _, .dct e n l r => .dct (f.keep _ _ e n).1 (f.keep _ _ e n).2 l (Reps.kp f r)
  | _, _, .scr e => .scr (e.kp f)
theorem Reps.kp (f : Kp h H h' H') : ∀ {ds : List D} {vs : List V}, Reps K H h ds vs → Reps K H' h' ds vs
  | _, _, .nil => .nil
  | _, _, .cons r s => .cons (Rep.kp f r) (Reps.kp f s)
end
theorem ScrAt.frm {a : Addr} {vs : List V} (f : Frm h H h' H') (x : ScrAt K H h a vs) : ScrAt K H' h' a vs := x.kp f.toKp
theorem Rep.frm {d : D} {v : V} (f : Frm h H h' H') (r : Rep K H h d v) : Rep K H' h' d v := r.kp f.toKp
theorem Reps.frm {ds : List D} {vs : List V} (f : Frm h H h' H') (r : Reps K H h ds vs) : Reps K H' h' ds vs := r.kp f.toKp
theorem Reps.length : ∀ {ds : List D} {vs : List V}, Reps K H h ds vs → ds.length = vs.length
  | _, _, .nil => rfl
  | _, _, .cons _ s => congrArg (· + 1) (Reps.length s)
theorem Reps.get : ∀ {ds : List D} {vs : List V} {i : Nat} {d : D}, Reps K H h ds vs → ds[i]? = some d → ∃ v, vs[i]? = some v ∧ Rep K H h d v
  | _, _, _, _, .nil, e => by simp at e
  | _, _, 0, _, .cons r _, e => by simp at e; subst e; exact ⟨_, rfl, r⟩
  | _, _, i + 1, _, .cons _ s, e => by
    obtain ⟨v, h1, h2⟩ := Reps.get (i := i) s (by simpa using e)
    exact ⟨v, by simpa using h1, h2⟩
theorem Reps.append : ∀ {ds es : List D} {vs us : List V}, Reps K H h ds vs → Reps K H h es us → Reps K H h (ds ++ es) (vs ++ us)
  | _, _, _, _, .nil, s => s
  | _, _, _, _, .cons r t, s => .cons r (Reps.append t s)
theorem Reps.take : ∀ {ds : List D} {vs : List V} (n : Nat), Reps K H h ds vs → Reps K H h (ds.take n) (vs.take n)
  | _, _, 0, _ => .nil
  | _, _, _ + 1, .nil => .nil
  | _, _, n + 1, .cons r t => .cons r (Reps.take n t)
theorem Reps.drop : ∀ {ds : List D} {vs : List V} (n : Nat), Reps K H h ds vs → Reps K H h (ds.drop n) (vs.drop n)
  | _, _, 0, r => r
  | _, _, _ + 1, .nil => .nil
  | _, _, n + 1, .cons _ t => Reps.drop n t
theorem Reps.reverse {ds : List D} {vs : List V} (r : Reps K H h ds vs) : Reps K H h ds.reverse vs.reverse := by
  induction ds generalizing vs with
  | nil => cases r; exact .nil
  | cons d ds ih =>
    cases r with
    | cons r s => rw [List.reverse_cons, List.reverse_cons]; exact (ih s).append (.cons r .nil)
theorem Reps.set : ∀ {ds : List D} {vs : List V} (i : Nat) {d : D} {v : V}, Reps K H h ds vs → Rep K H h d v → Reps K H h (ds.set i d) (vs.set i v)
  | _, _, _, _, _, .nil, _ => .nil
  | _, _, 0, _, _, .cons _ t, r => .cons r t
  | _, _, i + 1, _, _, .cons q t, r => .cons q (Reps.set i t r)
theorem Reps.eraseIdx : ∀ {ds : List D} {vs : List V} (i : Nat), Reps K H h ds vs → Reps K H h (ds.eraseIdx i) (vs.eraseIdx i)
  | _, _, _, .nil => .nil
  | _, _, 0, .cons _ t => t
  | _, _, i + 1, .cons q t => .cons q (Reps.eraseIdx i t)
theorem Reps.dropLast : ∀ {ds : List D} {vs : List V}, Reps K H h ds vs → Reps K H h ds.dropLast vs.dropLast
  | _, _, .nil => .nil
  | _, _, .cons _ .nil => .nil
  | _, _, .cons r (.cons q t) => .cons r (Reps.dropLast (.cons q t))
theorem Reps.rep {ds : List D} {vs : List V} (r : Reps K H h ds vs) : ∀ k : Nat, Reps K H h (List.replicate k ds).flatten (List.replicate k vs).flatten
  | 0 => .nil
  | k + 1 => by rw [List.replicate_succ, List.replicate_succ, List.flatten_cons, List.flatten_cons]; exact r.append (Reps.rep r k)
end

/-- what may be changed is as the heap part says -/
def At (K : PySem.W.Frag) (H : Hp) (h : Hd) (a : Addr) : D → Prop
  | .lst ds => ∃ vs, H a = some (.lst vs) ∧ Reps K H h ds vs
  | .ins C ns ds => ∃ dx vs, H a = some (.ins (He.ga K C) dx (ns.zip vs)) ∧ ns.length = vs.length ∧ Reps K H h ds vs
  | .dct ks ds => ∃ vs, H a = some (.dK (ks.zip vs)) ∧ ks.length = vs.length ∧ Reps K H h ds vs
  | .non => ∃ o, H a = some o
  | _ => False
def HRel (K : PySem.W.Frag) (H : Hp) (h : Hd) : Prop := ∀ a d, h a = some d → At K H h a d
section
variable {K : PySem.W.Frag} {H H' : Hp} {h h' : Hd} {a : Addr} {d e : D} {o : HO}
theorem At.there (x : At K H h a d) : ∃ o, H a = some o := by
  cases d with
  | lst ds => obtain ⟨vs, e, _⟩ := x; exact ⟨_, e⟩
  | ins C ns ds => obtain ⟨dx, vs, e, _⟩ := x; exact ⟨_, e⟩
  | dct ks ds => obtain ⟨vs, e, _⟩ := x; exact ⟨_, e⟩
  | non => exact x
  | _ => exact False.elim x
theorem HRel.gone (r : HRel K H h) (n : H a = none) : h a = none := by
  cases e : h a with
  | none => rfl
  | some d => obtain ⟨o, q⟩ := (r a d e).there; rw [n] at q; cases q
/-- a new object that may be changed -/
theorem Frm.new (n : H a = none) (m : h a = none) : Frm h H (hupd h a d) (upd H a o) :=
  ⟨⟨fun b u e m => by
    have q : b ≠ a := fun z => by rw [z, n] at e; cases e
    exact ⟨by rw [upd_ne q]; exact e, by rw [hupd_ne q]; exact m⟩⟩, fun b e => by
    have q : b ≠ a := fun z => by rw [z, m] at e; cases e
    exact ⟨by rw [hupd_ne q]; exact e, fun u z => by rw [upd_ne q]; exact z⟩⟩
/-- a new object that may not -/
theorem Frm.newF (n : H a = none) : Frm h H h (upd H a o) :=
  ⟨⟨fun b u e m => by
    have q : b ≠ a := fun z => by rw [z, n] at e; cases e
    exact ⟨by rw [upd_ne q]; exact e, m⟩⟩, fun b e => ⟨e, fun u z => by
    have q : b ≠ a := fun y => by rw [y, n] at z; cases z
    rw [upd_ne q]; exact z⟩⟩
/-- a write -/
theorem Frm.put (n : h a = some e) (ne : e ≠ .non) : Frm h H (hupd h a d) (upd H a o) :=
  ⟨⟨fun b u z m => by
    have q : b ≠ a := fun y => by rw [y, n] at m; cases m
    exact ⟨by rw [upd_ne q]; exact z, by rw [hupd_ne q]; exact m⟩⟩, fun b z => by
    have q : b ≠ a := fun y => by rw [y, n] at z; cases z; exact ne rfl
    exact ⟨by rw [hupd_ne q]; exact z, fun u z => by rw [upd_ne q]; exact z⟩⟩
/-- a write at what is put away -/
theorem Kp.putN (n : h a = some e) : Kp h H h (upd H a o) :=
  ⟨fun b u z m => by
    have q : b ≠ a := fun y => by rw [y, n] at m; cases m
    exact ⟨by rw [upd_ne q]; exact z, m⟩⟩
/-- what is put away is taken out again -/
theorem Kp.out (n : h a = some e) : Kp h H (hupd h a d) H :=
  ⟨fun b u z m => by
    have q : b ≠ a := fun y => by rw [y, n] at m; cases m
    exact ⟨z, by rw [hupd_ne q]; exact m⟩⟩
/-- what may be changed is given up -/
theorem Kp.del : Kp h H (hdel h a) H :=
  ⟨fun b u z m => ⟨z, by
    by_cases q : b = a
    · rw [q]; exact hdel_same
    · rw [hdel_ne q]; exact m⟩⟩
theorem Frm.del (n : h a ≠ some .non) : Frm h H (hdel h a) H :=
  ⟨Kp.del, fun b e => by
    have q : b ≠ a := fun z => n (by rw [← z]; exact e)
    exact ⟨by rw [hdel_ne q]; exact e, fun u z => z⟩⟩
/-- the contents do not lean on what may be changed -/
theorem At.frm (f : ∀ ds vs, Reps K H h ds vs → Reps K H' h' ds vs) (k : ∀ o, H a = Option.some o → H' a = Option.some o) (x : At K H h a d) : At K H' h' a d := by
  cases d with
  | lst ds => obtain ⟨vs, e, r⟩ := x; exact ⟨vs, k _ e, f _ _ r⟩
  | ins C ns ds => obtain ⟨dx, vs, e, l, r⟩ := x; exact ⟨dx, vs, k _ e, l, f _ _ r⟩
  | dct ks ds => obtain ⟨vs, e, l, r⟩ := x; exact ⟨vs, k _ e, l, f _ _ r⟩
  | non => obtain ⟨o, e⟩ := x; exact ⟨o, k _ e⟩
  | _ => exact False.elim x
theorem HRel.new (r : HRel K H h) (n : H a = none) (x : At K (upd H a o) (hupd h a d) a d) : HRel K (upd H a o) (hupd h a d) := fun b e q => by
  by_cases z : b = a
  · subst z; rw [hupd_same] at q; cases q; exact x
  · rw [hupd_ne z] at q
    exact (r b e q).frm (fun _ _ y => y.frm (Frm.new n (r.gone n))) fun u y => by rw [upd_ne z]; exact y
theorem HRel.newF (r : HRel K H h) (n : H a = none) : HRel K (upd H a o) h := fun b e q => by
  refine (r b e q).frm (fun _ _ y => y.frm (Frm.newF n)) fun u y => ?_
  have z : b ≠ a := fun z => by rw [z, n] at y; cases y
  rw [upd_ne z]; exact y
theorem HRel.put (r : HRel K H h) (n : h a = some e) (ne : e ≠ .non) (x : At K (upd H a o) (hupd h a d) a d) : HRel K (upd H a o) (hupd h a d) := fun b u q => by
  by_cases z : b = a
  · subst z; rw [hupd_same] at q; cases q; exact x
  · rw [hupd_ne z] at q
    exact (r b u q).frm (fun _ _ y => y.frm (Frm.put n ne)) fun u y => by rw [upd_ne z]; exact y
theorem HRel.del (r : HRel K H h) : HRel K H (hdel h a) := fun b e q => by
  by_cases z : b = a
  · rw [z, hdel_same] at q; cases q
  · rw [hdel_ne z] at q
    exact (r b e q).frm (fun _ _ y => y.kp Kp.del) fun u y => y
/-- a write at what is put away -/
theorem HRel.putN (r : HRel K H h) (n : h a = some .non) : HRel K (upd H a o) h := fun b u q => by
  by_cases z : b = a
  · subst z; rw [n] at q; cases q; exact ⟨o, upd_same⟩
  · exact (r b u q).frm (fun _ _ y => y.kp (Kp.putN n)) fun u y => by rw [upd_ne z]; exact y
/-- what is put away is taken out again -/
theorem HRel.out (r : HRel K H h) (n : h a = some .non) (x : At K H (hupd h a d) a d) : HRel K H (hupd h a d) := fun b u q => by
  by_cases z : b = a
  · subst z; rw [hupd_same] at q; cases q; exact x
  · rw [hupd_ne z] at q
    exact (r b u q).frm (fun _ _ y => y.kp (Kp.out n)) fun u y => y
end

/-- the frame's names -/
abbrev DEnv := List (Option D)
structure RelE (K : PySem.W.Frag) (H : Hp) (h : Hd) (ρ : DEnv) (σ : L2.St) : Prop where
  len : ρ.length = σ.length
  get : ∀ (i : Nat) (d : D), ρ[i]? = some (some d) → ∃ v, σ[i]? = some (some v) ∧ Rep K H h d v
theorem RelE.kp {K : PySem.W.Frag} {H H' : Hp} {h h' : Hd} {ρ : DEnv} {σ : L2.St} (r : RelE K H h ρ σ) (f : Kp h H h' H') : RelE K H' h' ρ σ :=
  ⟨r.len, fun i d e => let ⟨v, e1, r1⟩ := r.get i d e; ⟨v, e1, r1.kp f⟩⟩
theorem RelE.frm {K : PySem.W.Frag} {H H' : Hp} {h h' : Hd} {ρ : DEnv} {σ : L2.St} (r : RelE K H h ρ σ) (f : Frm h H h' H') : RelE K H' h' ρ σ := r.kp f.toKp
theorem RelE.set {K : PySem.W.Frag} {H : Hp} {h : Hd} {ρ : DEnv} {σ : L2.St} {d : D} {v : V} (r : RelE K H h ρ σ) (q : Rep K H h d v) (i : Nat) : RelE K H h (ρ.set i (some d)) (σ.set i (some v)) := by
  refine ⟨by simp [r.len], fun j e z => ?_⟩
  by_cases hj : i = j
  · subst hj
    by_cases hi : i < ρ.length
    · rw [List.getElem?_set_self hi] at z; cases z
      exact ⟨v, by rw [List.getElem?_set_self (by rw [← r.len]; exact hi)], q⟩
    · rw [List.getElem?_eq_none (by simp; omega)] at z; cases z
  · rw [List.getElem?_set_ne hj] at z
    obtain ⟨u, e1, r1⟩ := r.get j e z
    exact ⟨u, by rw [List.getElem?_set_ne hj]; exact e1, r1⟩

/-- an exception: its class by name, its fields -/
structure XV where
  cls : Str
  ns : List Str
  ds : List D
abbrev QD := D → Hd → Prop
abbrev QX := XV → Hd → Prop
abbrev TD := DEnv → Hd → QD → QX → Prop
abbrev TDs := DEnv → Hd → (List D → Hd → Prop) → QX → Prop
abbrev TDt := DEnv → Hd → (Bool → Hd → Prop) → QX → Prop
structure RepX (K : PySem.W.Frag) (H : Hp) (h : Hd) (x : XV) (cls : Value) (dx : Option Addr) : Prop where
  cls : cls = .ref (He.ga K x.cls)
  dx : (x.ns = [] ∧ dx = none) ∨ ∃ d vs, dx = some d ∧ H d = some (.xd (x.ns.zip vs)) ∧ h d = none ∧ x.ns.length = vs.length ∧ Reps K H h x.ds vs
/-- what is wanted of data is what is wanted of values, from here on -/
def Cl (K : PySem.W.Frag) (h0 : Hd) (H0 : Hp) (Qd : QD) (Q : VK) : Prop := ∀ d h v H, Frm h0 H0 h H → HRel K H h → Rep K H h d v → Qd d h → Q v H
def Cls_ (K : PySem.W.Frag) (h0 : Hd) (H0 : Hp) (Qd : List D → Hd → Prop) (Q : List V → Hp → Prop) : Prop := ∀ ds h vs H, Frm h0 H0 h H → HRel K H h → Reps K H h ds vs → Qd ds h → Q vs H
def Clt (K : PySem.W.Frag) (h0 : Hd) (H0 : Hp) (Qd : Bool → Hd → Prop) (Q : Bool → Hp → Prop) : Prop := ∀ b h H, Frm h0 H0 h H → HRel K H h → Qd b h → Q b H
def ClX (K : PySem.W.Frag) (h0 : Hd) (H0 : Hp) (Ed : QX) (E : XK) : Prop := ∀ x h cls dx H, Frm h0 H0 h H → HRel K H h → RepX K H h x cls dx → Ed x h → E cls dx H
section
variable {K : PySem.W.Frag} {h0 h1 : Hd} {H0 H1 : Hp}
theorem Cl.frm {Qd : QD} {Q : VK} (c : Cl K h0 H0 Qd Q) (f : Frm h0 H0 h1 H1) : Cl K h1 H1 Qd Q := fun d h v H g => c d h v H (f.trans g)
theorem Clt.frm {Qd : Bool → Hd → Prop} {Q : Bool → Hp → Prop} (c : Clt K h0 H0 Qd Q) (f : Frm h0 H0 h1 H1) : Clt K h1 H1 Qd Q := fun d h H g => c d h H (f.trans g)
theorem Cls_.frm {Qd : List D → Hd → Prop} {Q : List V → Hp → Prop} (c : Cls_ K h0 H0 Qd Q) (f : Frm h0 H0 h1 H1) : Cls_ K h1 H1 Qd Q := fun d h v H g => c d h v H (f.trans g)
theorem ClX.frm {Ed : QX} {E : XK} (c : ClX K h0 H0 Ed E) (f : Frm h0 H0 h1 H1) : ClX K h1 H1 Ed E := fun x h k d H g => c x h k d H (f.trans g)
end
def tD (K : PySem.W.Frag) (E : XK) (T : TD) : TE := fun σ H Q => ∃ ρ h Qd Ed, RelE K H h ρ σ ∧ HRel K H h ∧ T ρ h Qd Ed ∧ Cl K h H Qd Q ∧ ClX K h H Ed E
def tDs (K : PySem.W.Frag) (E : XK) (T : TDs) : TA := fun σ H Q => ∃ ρ h Qd Ed, RelE K H h ρ σ ∧ HRel K H h ∧ T ρ h Qd Ed ∧ Cls_ K h H Qd Q ∧ ClX K h H Ed E
def tDt (K : PySem.W.Frag) (E : XK) (T : TDt) : TT := fun σ H Q => ∃ ρ h Qd Ed, RelE K H h ρ σ ∧ HRel K H h ∧ T ρ h Qd Ed ∧ Clt K h H Qd Q ∧ ClX K h H Ed E

theorem _root_.L2.PE.weak {X : Cx} {e : Expr} {t t' : TE} (p : PE X e t) (w : ∀ σ H Q, t' σ H Q → t σ H Q) : PE X e t' := ⟨fun pins s σ H Q I h => p.run pins s σ H Q I (w _ _ _ h)⟩
theorem _root_.L2.PT.weak {X : Cx} {e : Expr} {t t' : TT} (p : PT X e t) (w : ∀ σ H Q, t' σ H Q → t σ H Q) : PT X e t' := ⟨fun pins s σ H Q I h => p.run pins s σ H Q I (w _ _ _ h)⟩
theorem _root_.L2.PW.weak {X : Cx} {e : Expr} {t t' : TT} (p : PW X e t) (w : ∀ σ H Q, t' σ H Q → t σ H Q) : PW X e t' := ⟨fun wh pins s σ H Q I h => p.run wh pins s σ H Q I (w _ _ _ h)⟩
theorem _root_.L2.PA.weak {X : Cx} {es : List Expr} {t t' : TA} (p : PA X es t) (w : ∀ σ H Q, t' σ H Q → t σ H Q) : PA X es t' := ⟨fun pos pins s σ H Q I h => p.run pos pins s σ H Q I (w _ _ _ h)⟩
theorem _root_.L2.PS.weak {X : Cx} {e : Stmt} {t t' : TS} (p : PS X e t) (w : ∀ D σ H, t' D σ H → t D σ H) : PS X e t' := ⟨fun pins s σ H D I h => p.run pins s σ H D I (w _ _ _ h)⟩
theorem _root_.L2.PSs.weak {X : Cx} {e : List Stmt} {t t' : TS} (p : PSs X e t) (w : ∀ D σ H, t' D σ H → t D σ H) : PSs X e t' := ⟨fun pins s σ H D I h => p.run pins s σ H D I (w _ _ _ h)⟩

/-! ### operations by data -/
abbrev RD1 := D → Hd → QD → Prop
abbrev RD2 := D → D → Hd → QD → Prop
abbrev RDs := List D → Hd → QD → Prop
def lift1 (K : PySem.W.Frag) (r : RD1) : V → Hp → VK → Prop := fun u H Q => ∃ h x Qd, HRel K H h ∧ Rep K H h x u ∧ r x h Qd ∧ Cl K h H Qd Q
def lift2 (K : PySem.W.Frag) (r : RD2) : R2 := fun u v H Q => ∃ h x y Qd, HRel K H h ∧ Rep K H h x u ∧ Rep K H h y v ∧ r x y h Qd ∧ Cl K h H Qd Q
def liftS (K : PySem.W.Frag) (r : RDs) : List V → Hp → VK → Prop := fun us H Q => ∃ h xs Qd, HRel K H h ∧ Reps K H h xs us ∧ r xs h Qd ∧ Cl K h H Qd Q
def liftM (K : PySem.W.Frag) (r : D → List D → Hd → QD → Prop) : V → List V → Hp → VK → Prop := fun u us H Q => ∃ h x xs Qd, HRel K H h ∧ Rep K H h x u ∧ Reps K H h xs us ∧ r x xs h Qd ∧ Cl K h H Qd Q
def bind1 (T : TD) (r : RD1) : TD := fun ρ h Q E => T ρ h (fun x h1 => r x h1 Q) E
def bind2 (T U : TD) (r : RD2) : TD := fun ρ h Q E => T ρ h (fun x h1 => U ρ h1 (fun y h2 => r x y h2 Q) E) E
def bindS (T : TDs) (r : RDs) : TD := fun ρ h Q E => T ρ h (fun xs h1 => r xs h1 Q) E
def bindM (T : TD) (U : TDs) (r : D → List D → Hd → QD → Prop) : TD := fun ρ h Q E => T ρ h (fun x h1 => U ρ h1 (fun xs h2 => r x xs h2 Q) E) E
section
variable {K : PySem.W.Frag} {E : XK} {T U : TD} {Ts : TDs}
theorem un_weak {r : RD1} (σ : L2.St) (H : Hp) (Q : VK) (x : tD K E (bind1 T r) σ H Q) : tUn (lift1 K r) (tD K E T) σ H Q := by
  obtain ⟨ρ, h, Qd, Ed, re, hr, t, c, cx⟩ := x
  refine ⟨ρ, h, _, Ed, re, hr, t, fun d1 h1 v1 H1 f1 hr1 r1 q1 => ?_, cx⟩
  exact ⟨h1, d1, Qd, hr1, r1, q1, c.frm f1⟩
theorem op_weak {r : RD2} (σ : L2.St) (H : Hp) (Q : VK) (x : tD K E (bind2 T U r) σ H Q) : tOp (lift2 K r) (tD K E T) (tD K E U) σ H Q := by
  obtain ⟨ρ, h, Qd, Ed, re, hr, t, c, cx⟩ := x
  refine ⟨ρ, h, _, Ed, re, hr, t, fun d1 h1 v1 H1 f1 hr1 r1 q1 => ?_, cx⟩
  refine ⟨ρ, h1, _, Ed, re.frm f1, hr1, q1, fun d2 h2 v2 H2 f2 hr2 r2 q2 => ?_, cx.frm f1⟩
  exact ⟨h2, d1, d2, Qd, hr2, r1.frm f2, r2, q2, c.frm (f1.trans f2)⟩
theorem cb_weak {r : RDs} (σ : L2.St) (H : Hp) (Q : VK) (x : tD K E (bindS Ts r) σ H Q) : tCB (liftS K r) (tDs K E Ts) σ H Q := by
  obtain ⟨ρ, h, Qd, Ed, re, hr, t, c, cx⟩ := x
  refine ⟨ρ, h, _, Ed, re, hr, t, fun d1 h1 v1 H1 f1 hr1 r1 q1 => ?_, cx⟩
  exact ⟨h1, d1, Qd, hr1, r1, q1, c.frm f1⟩
theorem un_ty {r : V → Hp → VK → Prop} (σ : L2.St) (H : Hp) (Q : VK) (x : tD K E T σ H fun v H1 => r v H1 Q) : tUn r (tD K E T) σ H Q := x
end
end Y
namespace Y
open PySem PySem.Spec PyProof.Rows L2

/-! ### what data hold -/
section
variable {K : PySem.W.Frag} {H : Hp} {h : Hd}
theorem Rep.sqT {ds : List D} {v : V} (r : Rep K H h (.tup ds) v) : ∃ a vs, v = .ref a ∧ SqT K H a vs ∧ Reps K H h ds vs := by
  cases r with
  | tup e n r => exact ⟨_, _, rfl, .inl (.inl e), r⟩
  | tupK k r => exact ⟨_, _, rfl, .inr k, r⟩
/-- a list, by its items: a value, or one that may be changed -/
@[reducible] def seqL (h : Hd) : D → Option (List D)
  | .lst ds => some ds
  | .ref a => match h a with
    | some (.lst ds) => some ds
    | _ => none
  | _ => none
theorem seqL_ref {a : Addr} {ds : List D} (e : seqL h (.ref a) = some ds) : h a = some (.lst ds) := by
  unfold seqL at e
  dsimp only at e
  cases q : h a with
  | none => rw [q] at e; cases e
  | some d =>
    rw [q] at e
    cases d with
    | lst es => cases e; rfl
    | _ => cases e
theorem seqL_ok (hr : HRel K H h) {d : D} {v : V} {ds : List D} (r : Rep K H h d v) (e : seqL h d = some ds) : ∃ a vs, v = .ref a ∧ H a = some (.lst vs) ∧ Reps K H h ds vs := by
  cases r with
  | lst e' n r => cases e; exact ⟨_, _, rfl, e', r⟩
  | ref a =>
    obtain ⟨vs, e1, r1⟩ := hr a _ (seqL_ref e)
    exact ⟨_, _, rfl, e1, r1⟩
  | _ => cases e
/-- a list or a tuple, read -/
@[reducible] def seqA (h : Hd) : D → Option (List D)
  | .tup ds => some ds
  | .scr is => some (is.map D.int)
  | d => seqL h d
theorem Reps.ints : ∀ is : List Int, Reps K H h (is.map D.int) (is.map V.int)
  | [] => .nil
  | i :: is => .cons (.int i) (Reps.ints is)
theorem seqA_ok (hr : HRel K H h) {d : D} {v : V} {ds : List D} (r : Rep K H h d v) (e : seqA h d = some ds) : ∃ a vs, v = .ref a ∧ (SqL K H a vs ∨ SqT K H a vs) ∧ Reps K H h ds vs := by
  cases r with
  | tup e' n r => cases e; exact ⟨_, _, rfl, .inr (.inl (.inl e')), r⟩
  | tupK k r => cases e; exact ⟨_, _, rfl, .inr (.inr k), r⟩
  | scr e' => cases e; exact ⟨_, _, rfl, .inl e'.sqL, Reps.ints _⟩
  | lst e' n r => cases e; exact ⟨_, _, rfl, .inl (.inl (.inl e')), r⟩
  | ref a =>
    obtain ⟨a, vs, e1, e2, r2⟩ := seqL_ok hr (.ref a) (show seqL h (.ref a) = some ds from e)
    exact ⟨a, vs, e1, .inl (.inl (.inl e2)), r2⟩
  | _ => cases e
theorem Reps.toInts : ∀ {is : List Int} {vs : List V}, Reps K H h (is.map D.int) vs → vs = is.map V.int
  | [], _, .nil => rfl
  | i :: is, _, .cons r s => by
    cases r
    rw [Reps.toInts s]; rfl
theorem Reps.toBls : ∀ {bs : List Bool} {vs : List V}, Reps K H h (bs.map D.bl) vs → vs = bs.map V.bl
  | [], _, .nil => rfl
  | b :: bs, _, .cons r s => by
    cases r
    rw [Reps.toBls s]; rfl
theorem Reps.toStrs : ∀ {bs : List Str} {vs : List V}, Reps K H h (bs.map D.str) vs → vs = bs.map V.str
  | [], _, .nil => rfl
  | b :: bs, _, .cons r s => by
    cases r
    rw [Reps.toStrs s]; rfl
theorem Reps.strs : ∀ xs : List Str, Reps K H h (xs.map D.str) (xs.map V.str)
  | [] => .nil
  | x :: xs => .cons (.str x) (Reps.strs xs)
end
/-- all ints, bools, texts -/
def intsOf : List D → Option (List Int)
  | [] => some []
  | .int i :: r => (intsOf r).map (i :: ·)
  | _ :: _ => none
def blsOf : List D → Option (List Bool)
  | [] => some []
  | .bl i :: r => (blsOf r).map (i :: ·)
  | _ :: _ => none
def strsOf : List D → Option (List Str)
  | [] => some []
  | .str i :: r => (strsOf r).map (i :: ·)
  | _ :: _ => none
theorem intsOf_eq : ∀ {ds : List D} {is : List Int}, intsOf ds = some is → ds = is.map D.int
  | [], _, e => by cases e; rfl
  | d :: r, is, e => by
    cases d with
    | int i =>
      cases q : intsOf r with
      | none => rw [intsOf, q] at e; cases e
      | some js => rw [intsOf, q] at e; cases e; rw [intsOf_eq q]; rfl
    | _ => cases e
theorem blsOf_eq : ∀ {ds : List D} {is : List Bool}, blsOf ds = some is → ds = is.map D.bl
  | [], _, e => by cases e; rfl
  | d :: r, is, e => by
    cases d with
    | bl i =>
      cases q : blsOf r with
      | none => rw [blsOf, q] at e; cases e
      | some js => rw [blsOf, q] at e; cases e; rw [blsOf_eq q]; rfl
    | _ => cases e
theorem strsOf_eq : ∀ {ds : List D} {is : List Str}, strsOf ds = some is → ds = is.map D.str
  | [], _, e => by cases e; rfl
  | d :: r, is, e => by
    cases d with
    | str i =>
      cases q : strsOf r with
      | none => rw [strsOf, q] at e; cases e
      | some js => rw [strsOf, q] at e; cases e; rw [strsOf_eq q]; rfl
    | _ => cases e
@[simp] theorem intsOf_map : ∀ is : List Int, intsOf (is.map D.int) = some is
  | [] => rfl
  | i :: is => by rw [List.map_cons, intsOf, intsOf_map is]; rfl
@[simp] theorem blsOf_map : ∀ is : List Bool, blsOf (is.map D.bl) = some is
  | [] => rfl
  | i :: is => by rw [List.map_cons, blsOf, blsOf_map is]; rfl
@[simp] theorem strsOf_map : ∀ is : List Str, strsOf (is.map D.str) = some is
  | [] => rfl
  | i :: is => by rw [List.map_cons, strsOf, strsOf_map is]; rfl

/-! ### + - * // % ** -/
/-- what a product of ints asks -/
def MulOk (i j : Int) : Prop := CMul i j ∨ CMulX i j
def DivOk (j : Int) : Prop := 0 < j ∧ j.natAbs.log2 < 9000
/-- a new list, as a value; a new tuple -/
@[reducible] def newL (ds : List D) (h : Hd) (Q : QD) : Prop := ds.length ≤ sizeLine ∧ Q (.lst ds) h
@[reducible] def newT (ds : List D) (h : Hd) (Q : QD) : Prop := ds.length ≤ sizeLine ∧ Q (.tup ds) h
@[reducible] def addR : RD2 := fun x y h Q => match x, y with
  | .int i, .int j => Q (.int (i + j)) h
  | .str i, .str j => i.length + j.length ≤ sizeLine ∧ Q (.str (i ++ j)) h
  | .tup i, .tup j => newT (i ++ j) h Q
  | x, y => match seqL h x, seqL h y with
    | some i, some j => newL (i ++ j) h Q
    | _, _ => False
@[reducible] def subR : RD2 := fun x y h Q => match x, y with
  | .int i, .int j => Q (.int (i - j)) h
  | _, _ => False
@[reducible] def mulR : RD2 := fun x y h Q => match x, y with
  | .int i, .int j => MulOk i j ∧ Q (.int (i * j)) h
  | x, .int k => match seqL h x with
    | some ds => 0 ≤ k ∧ k < 2 ^ 20 ∧ newL (List.replicate k.toNat ds).flatten h Q
    | none => False
  | _, _ => False
@[reducible] def fdivR : RD2 := fun x y h Q => match x, y with
  | .int i, .int j => DivOk j ∧ Q (.int (i / j)) h
  | _, _ => False
@[reducible] def modR : RD2 := fun x y h Q => match x, y with
  | .int i, .int j => 0 < j ∧ Q (.int (i % j)) h
  | _, _ => False
@[reducible] def powR : RD2 := fun x y h Q => match x, y with
  | .int i, .int j => CPow i j ∧ Q (.int (i ^ j.toNat)) h
  | _, _ => False
section
variable {X : Cx}
/-- a result that is a plain value -/
theorem Cl.here {K : PySem.W.Frag} {h : Hd} {H : Hp} {Qd : QD} {Q : VK} {d : D} {v : V} (c : Cl K h H Qd Q) (hr : HRel K H h) (r : Rep K H h d v) (q : Qd d h) : Q v H := c d h v H Frm.refl hr r q
/-- a result that is a new object, a value -/
theorem Cl.fresh {K : PySem.W.Frag} {h : Hd} {H : Hp} {Qd : QD} {Q : VK} {d : D} {o : HO} {p : Addr} (c : Cl K h H Qd Q) (hr : HRel K H h) (n : H p = none) (r : Rep K (upd H p o) h d (.ref p)) (q : Qd d h) : Q (.ref p) (upd H p o) :=
  c d h _ _ (Frm.newF n) (hr.newF n) r q
theorem Reps.newF {K : PySem.W.Frag} {h : Hd} {H : Hp} {ds : List D} {vs : List V} {o : HO} {p : Addr} (r : Reps K H h ds vs) (n : H p = none) : Reps K (upd H p o) h ds vs := r.frm (Frm.newF n)
theorem Rep.newL {K : PySem.W.Frag} {h : Hd} {H : Hp} {ds : List D} {vs : List V} {p : Addr} (hr : HRel K H h) (r : Reps K H h ds vs) (n : H p = none) : Rep K (upd H p (.lst vs)) h (.lst ds) (.ref p) := .lst upd_same (hr.gone n) (r.newF n)
theorem Rep.newT {K : PySem.W.Frag} {h : Hd} {H : Hp} {ds : List D} {vs : List V} {p : Addr} (hr : HRel K H h) (r : Reps K H h ds vs) (n : H p = none) : Rep K (upd H p (.tup vs)) h (.tup ds) (.ref p) := .tup upd_same (hr.gone n) (r.newF n)

theorem do_add : OpR X (binaryOp .Add) (lift2 X.K addR) := by
  intro pins s σ H u v v' u' Q I ru rv hx
  obtain ⟨h, x, y, Qd, hr, rx, ry, q, c⟩ := hx
  have lists : ∀ {i j : List D}, seqL h x = some i → seqL h y = some j → newL (i ++ j) h Qd → wpAny (model X.prog X.w) X.A (binaryOp .Add v' u') (EP X pins σ Q) X.xe s := fun {i j} e1 e2 q => by
    obtain ⟨a, vs, rfl, ha, ra⟩ := seqL_ok hr rx e1
    obtain ⟨b, us, rfl, hb, rb⟩ := seqL_ok hr ry e2
    obtain ⟨z, q⟩ := q
    refine op_cat pins s σ H _ _ _ _ Q I ru rv ⟨a, b, vs, us, rfl, rfl, ha, hb, by rw [← ra.length, ← rb.length, ← List.length_append]; exact z, fun p n => ?_⟩
    exact c.fresh hr n (Rep.newL hr (ra.append rb) n) q
  have dflt : (match seqL h x, seqL h y with | some i, some j => newL (i ++ j) h Qd | _, _ => False) → wpAny (model X.prog X.w) X.A (binaryOp .Add v' u') (EP X pins σ Q) X.xe s := fun q => by
    cases e1 : seqL h x with
    | none => rw [e1] at q; exact q.elim
    | some i =>
      cases e2 : seqL h y with
      | none => rw [e1, e2] at q; exact q.elim
      | some j => rw [e1, e2] at q; exact lists e1 e2 q
  cases x with
  | int i =>
    cases y with
    | int j =>
      cases rx; cases ry
      exact op_add pins s σ H _ _ _ _ Q I ru rv ⟨i, j, rfl, rfl, c.here hr (.int _) q⟩
    | _ => exact dflt q
  | str i =>
    cases y with
    | str j =>
      cases rx; cases ry
      exact op_add_str pins s σ H _ _ _ _ Q I ru rv ⟨i, j, rfl, rfl, q.1, c.here hr (.str _) q.2⟩
    | _ => exact dflt q
  | tup i =>
    cases y with
    | tup j =>
      obtain ⟨a, vs, rfl, ha, ra⟩ := rx.sqT
      obtain ⟨b, us, rfl, hb, rb⟩ := ry.sqT
      obtain ⟨z, q⟩ := q
      refine op_catA pins s σ H _ _ _ _ Q I ru rv ⟨a, b, vs, us, rfl, rfl, ha, hb, by rw [← ra.length, ← rb.length, ← List.length_append]; exact z, fun e => ?_, fun _ e => ?_, fun _ _ p n => ?_⟩
      · have ei : i = [] := List.length_eq_zero_iff.mp (by rw [ra.length, e]; rfl)
        subst ei
        exact c.here hr ry q
      · have ej : j = [] := List.length_eq_zero_iff.mp (by rw [rb.length, e]; rfl)
        subst ej
        rw [List.append_nil] at q
        exact c.here hr rx q
      · exact c.fresh hr n (Rep.newT hr (ra.append rb) n) q
    | _ => exact dflt q
  | _ => exact dflt q
theorem do_sub : OpR X (binaryOp .Sub) (lift2 X.K subR) := by
  intro pins s σ H u v v' u' Q I ru rv hx
  obtain ⟨h, x, y, Qd, hr, rx, ry, q, c⟩ := hx
  cases x with
  | int i =>
    cases y with
    | int j =>
      cases rx; cases ry
      exact op_sub pins s σ H _ _ _ _ Q I ru rv ⟨i, j, rfl, rfl, c.here hr (.int _) q⟩
    | _ => exact q.elim
  | _ => exact q.elim
theorem MulOk.ok {i j : Int} (h : MulOk i j) : IntMulOk i j := by
  rcases h with h | h
  · exact h.ok
  · exact h.ok
theorem op_mulA : OpR X (binaryOp .Mult) (rI MulOk fun i j => .int (i * j)) := opI fun _ _ _ _ _ _ _ hc q => mul_int q hc.ok
theorem do_mul : OpR X (binaryOp .Mult) (lift2 X.K mulR) := by
  intro pins s σ H u v v' u' Q I ru rv hx
  obtain ⟨h, x, y, Qd, hr, rx, ry, q, c⟩ := hx
  have dflt : ∀ k, y = .int k → (match seqL h x with | some ds => 0 ≤ k ∧ k < 2 ^ 20 ∧ newL (List.replicate k.toNat ds).flatten h Qd | none => False) → wpAny (model X.prog X.w) X.A (binaryOp .Mult v' u') (EP X pins σ Q) X.xe s := fun k ey q2 => by
    clear q
    subst ey
    cases ry
    cases e : seqL h x with
    | none => rw [e] at q2; exact q2.elim
    | some ds =>
      rw [e] at q2
      obtain ⟨k0, k1, z, q⟩ := q2
      obtain ⟨a, vs, rfl, ha, ra⟩ := seqL_ok hr rx e
      refine op_rep pins s σ H _ _ _ _ Q I ru rv ⟨a, k, vs, rfl, rfl, ha, by omega, by omega, ?_, fun p n => ?_⟩
      · have e1 := (ra.rep k.toNat).length
        have e2 : (List.replicate k.toNat vs).flatten.length = k.toNat * vs.length := by simp
        rw [e2] at e1
        rw [Nat.mul_comm, ← e1]; exact z
      · exact c.fresh hr n (Rep.newL hr (ra.rep k.toNat) n) q
  cases x with
  | int i =>
    cases y with
    | int j =>
      cases rx; cases ry
      exact op_mulA pins s σ H _ _ _ _ Q I ru rv ⟨i, j, rfl, rfl, q.1, c.here hr (.int _) q.2⟩
    | _ => exact q.elim
  | _ =>
    cases y with
    | int j => exact dflt j rfl q
    | _ => exact q.elim
theorem do_fdiv : OpR X (binaryOp .FloorDiv) (lift2 X.K fdivR) := by
  intro pins s σ H u v v' u' Q I ru rv hx
  obtain ⟨h, x, y, Qd, hr, rx, ry, q, c⟩ := hx
  cases x with
  | int i =>
    cases y with
    | int j =>
      cases rx; cases ry
      exact op_fdivW pins s σ H _ _ _ _ Q I ru rv ⟨i, j, rfl, rfl, q.1, c.here hr (.int _) q.2⟩
    | _ => exact q.elim
  | _ => exact q.elim
theorem do_mod : OpR X (binaryOp .Mod) (lift2 X.K modR) := by
  intro pins s σ H u v v' u' Q I ru rv hx
  obtain ⟨h, x, y, Qd, hr, rx, ry, q, c⟩ := hx
  cases x with
  | int i =>
    cases y with
    | int j =>
      cases rx; cases ry
      exact op_mod pins s σ H _ _ _ _ Q I ru rv ⟨i, j, rfl, rfl, q.1, c.here hr (.int _) q.2⟩
    | _ => exact q.elim
  | _ => exact q.elim
theorem do_pow : OpR X (binaryOp .Pow) (lift2 X.K powR) := by
  intro pins s σ H u v v' u' Q I ru rv hx
  obtain ⟨h, x, y, Qd, hr, rx, ry, q, c⟩ := hx
  cases x with
  | int i =>
    cases y with
    | int j =>
      cases rx; cases ry
      exact op_pow pins s σ H _ _ _ _ Q I ru rv ⟨i, j, rfl, rfl, q.1, c.here hr (.int _) q.2⟩
    | _ => exact q.elim
  | _ => exact q.elim
end
end Y
namespace Y
open PySem PySem.Spec PyProof.Rows L2

/-! ### == != -/
/-- what an object that may be changed holds -/
@[reducible] def deref (h : Hd) : D → D
  | .ref a => match h a with
    | some (.lst ds) => .lst ds
    | _ => .ref a
  | d => d
mutual
def toPy : D → Option PyData
  | .non => some .none
  | .bl b => some (.bool b)
  | .int i => some (.int i)
  | .str x => some (.str x)
  | .tup ds => match toPys ds with
    | some ps => some (.tuple ps)
    | none => none
  | .lst ds => match toPys ds with
    | some ps => some (.list ps)
    | none => none
  | .ref _ => none
  | .ins _ _ _ => none
  | .dct _ _ => none
  | .scr _ => none
def toPys : List D → Option (List PyData)
  | [] => some []
  | d :: ds => match toPy d, toPys ds with
    | some p, some ps => some (p :: ps)
    | _, _ => none
end
section
variable {K : PySem.W.Frag} {H : Hp} {h : Hd}
mutual
theorem Rep.dp : ∀ {d : D} {v : V} {p : PyData}, Rep K H h d v → toPy d = some p → Dp K H v p
  | _, _, _, .non, e => by rw [toPy] at e; cases e; exact .non
  | _, _, _, .bl b, e => by rw [toPy] at e; cases e; exact .bl b
  | _, _, _, .int i, e => by rw [toPy] at e; cases e; exact .int i
  | _, _, _, .str x, e => by rw [toPy] at e; cases e; exact .str x
  | .tup ds, _, _, .tup e0 n r, e => by
    rw [toPy] at e
    cases q : toPys ds with
    | none => rw [q] at e; cases e
    | some ps => rw [q] at e; cases e; exact .tup (.inl (.inl e0)) (Reps.dps r q)
  | .tup ds, _, _, .tupK k r, e => by
    rw [toPy] at e
    cases q : toPys ds with
    | none => rw [q] at e; cases e
    | some ps => rw [q] at e; cases e; exact .tup (.inr k) (Reps.dps r q)
  | .lst ds, _, _, .lst e0 n r, e => by
    rw [toPy] at e
    cases q : toPys ds with
    | none => rw [q] at e; cases e
    | some ps => rw [q] at e; cases e; exact .lst (.inl (.inl e0)) (Reps.dps r q)
  | _, _, _, .ref a, e => by rw [toPy] at e; cases e
  | _, _, _, .ins .., e => by rw [toPy] at e; cases e
  | _, _, _, .dct .., e => by rw [toPy] at e; cases e
  | _, _, _, .scr .., e => by rw [toPy] at e; cases e
theorem Reps.dps : ∀ {ds : List D} {vs : List V} {ps : List PyData}, Reps K H h ds vs → toPys ds = some ps → DpAll K H vs ps
  | _, _, _, .nil, e => by rw [toPys] at e; cases e; exact .nil
  | d :: ds, _, _, .cons r s, e => by
    rw [toPys] at e
    cases q : toPy d with
    | none => rw [q] at e; cases e
    | some p =>
      cases q2 : toPys ds with
      | none => rw [q, q2] at e; cases e
      | some ps => rw [q, q2] at e; cases e; exact .cons (Rep.dp r q) (Reps.dps s q2)
end
theorem deref_dp (hr : HRel K H h) {d : D} {v : V} {p : PyData} (r : Rep K H h d v) (e : toPy (deref h d) = some p) : Dp K H v p := by
  cases r with
  | ref a =>
    unfold deref at e
    dsimp only at e
    cases q : h a with
    | none => rw [q] at e; rw [toPy] at e; cases e
    | some d =>
      rw [q] at e
      cases d with
      | lst ds =>
        dsimp only at e
        rw [toPy] at e
        cases q2 : toPys ds with
        | none => rw [q2] at e; cases e
        | some ps =>
          rw [q2] at e; cases e
          obtain ⟨vs, e1, r1⟩ := hr a _ q
          exact .lst (.inl (.inl e1)) (Reps.dps r1 q2)
      | _ => rw [toPy] at e; cases e
  | non => exact Rep.dp (h := h) .non e
  | bl b => exact Rep.dp (h := h) (.bl b) e
  | int b => exact Rep.dp (h := h) (.int b) e
  | str b => exact Rep.dp (h := h) (.str b) e
  | tup a b c => exact Rep.dp (h := h) (.tup a b c) e
  | tupK a b => exact Rep.dp (h := h) (.tupK a b) e
  | lst a b c => exact Rep.dp (h := h) (.lst a b c) e
  | ins a b c d => exact Rep.dp (h := h) (.ins a b c d) e
  | dct a b c d => exact Rep.dp (h := h) (.dct a b c d) e
  | scr a => exact Rep.dp (h := h) (.scr a) e
end
/-- plain ones -/
@[reducible] def scalEq : D → D → Option Bool
  | .int i, .int j => some (decide (i = j))
  | .str i, .str j => some (decide (i = j))
  | .bl i, .bl j => some (decide (i = j))
  | .non, .non => some true
  | .non, .int _ => some false
  | .non, .str _ => some false
  | .non, .bl _ => some false
  | .int _, .non => some false
  | .str _, .non => some false
  | .bl _, .non => some false
  | .int _, .str _ => some false
  | .str _, .int _ => some false
  | .bl _, .str _ => some false
  | .str _, .bl _ => some false
  | _, _ => none
/-- of any depth -/
def deepEq (h : Hd) (x y : D) (Q : Bool → Prop) : Prop := match toPy (deref h x), toPy (deref h y) with
  | some p, some q => SeqAt.shaped p = true ∧ SeqAt.shaped q = true ∧ Q (PyData.eqv p q)
  | _, _ => False
@[reducible] def eqQ (x y : D) (h : Hd) (Q : Bool → Prop) : Prop := match scalEq x y with
  | some b => Q b
  | none => deepEq h x y Q
@[reducible] def eqR : RD2 := fun x y h Q => eqQ x y h fun b => Q (.bl b) h
@[reducible] def neR : RD2 := fun x y h Q => eqQ x y h fun b => Q (.bl (!b)) h
/-! ### < <= > >= -/
@[reducible] def ltR : RD2 := fun x y h Q => match x, y with
  | .int i, .int j => Q (.bl (decide (i < j))) h
  | .str i, .str j => Q (.bl (decide (i.cps.toList < j.cps.toList))) h
  | _, _ => False
@[reducible] def leR : RD2 := fun x y h Q => match x, y with
  | .int i, .int j => Q (.bl (decide (i ≤ j))) h
  | _, _ => False
@[reducible] def gtR : RD2 := fun x y h Q => match x, y with
  | .int i, .int j => Q (.bl (decide (j < i))) h
  | _, _ => False
@[reducible] def geR : RD2 := fun x y h Q => match x, y with
  | .int i, .int j => Q (.bl (decide (j ≤ i))) h
  | _, _ => False
/-! ### in -/
def flatD : D → Bool
  | .non => true
  | .bl _ => true
  | .int _ => true
  | .str _ => true
  | _ => false
def eqF : D → D → Bool
  | .non, .non => true
  | .bl a, .bl b => a == b
  | .bl a, .int b => (if a then 1 else 0) == b
  | .int a, .bl b => a == (if b then 1 else 0)
  | .int a, .int b => a == b
  | .str a, .str b => a == b
  | _, _ => false
def inD (x : D) (ds : List D) : Bool := ds.any fun y => eqF y x
def hasS (i j : Str) : Bool := !(Builtin.Str.occurrences j i 0 j.length 1).isEmpty
@[reducible] def inQ (x y : D) (h : Hd) (Q : Bool → Prop) : Prop := match x, y with
  | .str i, .str j => Q (hasS i j)
  | x, y => match seqA h y with
    | some ds => flatD x = true ∧ ds.all flatD = true ∧ Q (inD x ds)
    | none => False
@[reducible] def inR : RD2 := fun x y h Q => inQ x y h fun b => Q (.bl b) h
@[reducible] def ninR : RD2 := fun x y h Q => inQ x y h fun b => Q (.bl (!b)) h
/-! ### is -/
@[reducible] def isR : RD2 := fun x y h Q => match y with
  | .non => Q (.bl (match x with | .non => true | _ => false)) h
  | .bl b => match x with
    | .bl a => Q (.bl (decide (a = b))) h
    | _ => False
  | _ => False
@[reducible] def isnR : RD2 := fun x y h Q => match y with
  | .non => Q (.bl (match x with | .non => false | _ => true)) h
  | .bl b => match x with
    | .bl a => Q (.bl (!decide (a = b))) h
    | _ => False
  | _ => False
section
variable {X : Cx}
theorem scal_ok {K : PySem.W.Frag} {H : Hp} {h : Hd} {x y : D} {u v : V} {b : Bool} (e : scalEq x y = some b) (rx : Rep K H h x u) (ry : Rep K H h y v) : scal u v = true ∧ decide (u = v) = b := by
  cases rx <;> cases ry <;> first | (cases e; done) | (cases e; exact ⟨rfl, by simp⟩) | (cases e; exact ⟨rfl, by first | rfl | (simp; done)⟩)
theorem do_eq (hu : X.A.units + 64 < cLine) : OpR X (compareOp .Eq) (lift2 X.K eqR) := by
  intro pins s σ H u v v' u' Q I ru rv hx
  obtain ⟨h, x, y, Qd, hr, rx, ry, q, c⟩ := hx
  have q : eqQ x y h fun b => Qd (.bl b) h := q
  unfold eqQ at q
  cases e : scalEq x y with
  | some b =>
    rw [e] at q
    obtain ⟨e1, e2⟩ := scal_ok e rx ry
    exact op_eq pins s σ H _ _ _ _ Q I ru rv ⟨e1, by rw [e2]; exact c.here hr (.bl b) q⟩
  | none =>
    rw [e] at q
    have q : deepEq h x y fun b => Qd (.bl b) h := q
    unfold deepEq at q
    cases e1 : toPy (deref h x) with
    | none => rw [e1] at q; exact q.elim
    | some p =>
      cases e2 : toPy (deref h y) with
      | none => rw [e1, e2] at q; exact q.elim
      | some p2 =>
        rw [e1, e2] at q
        exact op_eqD hu pins s σ H _ _ _ _ Q I ru rv ⟨p, p2, deref_dp hr rx e1, deref_dp hr ry e2, q.1, q.2.1, c.here hr (.bl _) q.2.2⟩
theorem do_ne (hu : X.A.units + 64 < cLine) : OpR X (compareOp .NotEq) (lift2 X.K neR) := by
  intro pins s σ H u v v' u' Q I ru rv hx
  obtain ⟨h, x, y, Qd, hr, rx, ry, q, c⟩ := hx
  have q : eqQ x y h fun b => Qd (.bl (!b)) h := q
  unfold eqQ at q
  cases e : scalEq x y with
  | some b =>
    rw [e] at q
    obtain ⟨e1, e2⟩ := scal_ok e rx ry
    exact op_ne pins s σ H _ _ _ _ Q I ru rv ⟨e1, by rw [e2]; exact c.here hr (.bl _) q⟩
  | none =>
    rw [e] at q
    have q : deepEq h x y fun b => Qd (.bl (!b)) h := q
    unfold deepEq at q
    cases e1 : toPy (deref h x) with
    | none => rw [e1] at q; exact q.elim
    | some p =>
      cases e2 : toPy (deref h y) with
      | none => rw [e1, e2] at q; exact q.elim
      | some p2 =>
        rw [e1, e2] at q
        exact op_neD hu pins s σ H _ _ _ _ Q I ru rv ⟨p, p2, deref_dp hr rx e1, deref_dp hr ry e2, q.1, q.2.1, c.here hr (.bl _) q.2.2⟩
theorem do_lt : OpR X (compareOp .Lt) (lift2 X.K ltR) := by
  intro pins s σ H u v v' u' Q I ru rv hx
  obtain ⟨h, x, y, Qd, hr, rx, ry, q, c⟩ := hx
  cases x with
  | int i => cases y with
    | int j => cases rx; cases ry; exact op_lt pins s σ H _ _ _ _ Q I ru rv ⟨i, j, rfl, rfl, c.here hr (.bl _) q⟩
    | _ => exact q.elim
  | str i => cases y with
    | str j => cases rx; cases ry; exact op_lt_str pins s σ H _ _ _ _ Q I ru rv ⟨i, j, rfl, rfl, c.here hr (.bl _) q⟩
    | _ => exact q.elim
  | _ => exact q.elim
theorem do_le : OpR X (compareOp .LtE) (lift2 X.K leR) := by
  intro pins s σ H u v v' u' Q I ru rv hx
  obtain ⟨h, x, y, Qd, hr, rx, ry, q, c⟩ := hx
  cases x with
  | int i => cases y with
    | int j => cases rx; cases ry; exact op_le pins s σ H _ _ _ _ Q I ru rv ⟨i, j, rfl, rfl, c.here hr (.bl _) q⟩
    | _ => exact q.elim
  | _ => exact q.elim
theorem do_gt : OpR X (compareOp .Gt) (lift2 X.K gtR) := by
  intro pins s σ H u v v' u' Q I ru rv hx
  obtain ⟨h, x, y, Qd, hr, rx, ry, q, c⟩ := hx
  cases x with
  | int i => cases y with
    | int j => cases rx; cases ry; exact op_gt pins s σ H _ _ _ _ Q I ru rv ⟨i, j, rfl, rfl, c.here hr (.bl _) q⟩
    | _ => exact q.elim
  | _ => exact q.elim
theorem do_ge : OpR X (compareOp .GtE) (lift2 X.K geR) := by
  intro pins s σ H u v v' u' Q I ru rv hx
  obtain ⟨h, x, y, Qd, hr, rx, ry, q, c⟩ := hx
  cases x with
  | int i => cases y with
    | int j => cases rx; cases ry; exact op_ge pins s σ H _ _ _ _ Q I ru rv ⟨i, j, rfl, rfl, c.here hr (.bl _) q⟩
    | _ => exact q.elim
  | _ => exact q.elim
theorem flat_ok {K : PySem.W.Frag} {H : Hp} {h : Hd} {x : D} {u : V} (f : flatD x = true) (r : Rep K H h x u) : flatV u = true := by
  cases r <;> first | rfl | (cases f; done)
theorem flats_ok {K : PySem.W.Frag} {H : Hp} {h : Hd} : ∀ {xs : List D} {us : List V}, xs.all flatD = true → Reps K H h xs us → us.all flatV = true
  | _, _, _, .nil => rfl
  | _, _, f, .cons r s => by
    rw [List.all_cons, Bool.and_eq_true] at f
    rw [List.all_cons, flat_ok f.1 r, flats_ok f.2 s]; rfl
theorem eqF_ok {K : PySem.W.Frag} {H : Hp} {h : Hd} {x y : D} {u v : V} (fx : flatD x = true) (fy : flatD y = true) (rx : Rep K H h x u) (ry : Rep K H h y v) : eqV v u = eqF y x := by
  cases rx <;> cases ry <;> first | rfl | (cases fx; done) | (cases fy; done)
theorem inD_ok {K : PySem.W.Frag} {H : Hp} {h : Hd} {x : D} {u : V} (fx : flatD x = true) (rx : Rep K H h x u) : ∀ {xs : List D} {us : List V}, xs.all flatD = true → Reps K H h xs us → inV u us = inD x xs
  | _, _, _, .nil => rfl
  | y :: xs, v :: us, f, .cons r s => by
    rw [List.all_cons, Bool.and_eq_true] at f
    have e := inD_ok fx rx f.2 s
    unfold inV at e ⊢
    unfold inD at e ⊢
    rw [List.any_cons, List.any_cons, eqF_ok fx f.1 rx r, e]
theorem in_seq {neg : Bool} {op : CmpOp} (ho : OpR X (compareOp op) (rIn X.K neg)) {pins : List (Addr × Obj)} {s : Shared} {σ : L2.St} {H : Hp} {u v : V} {u' v' : Value} {Q : VK} {h : Hd} {x y : D} {Qd : QD} (I : Inv X pins σ H s) (ru : RelV u u') (rv : RelV v v')
    (hr : HRel X.K H h) (rx : Rep X.K H h x u) (ry : Rep X.K H h y v) (c : Cl X.K h H Qd Q)
    (q : match seqA h y with | some ds => flatD x = true ∧ ds.all flatD = true ∧ Qd (.bl (if neg then !inD x ds else inD x ds)) h | none => False) : wpAny (model X.prog X.w) X.A (compareOp op u' v') (EP X pins σ Q) X.xe s := by
  cases e : seqA h y with
  | none => rw [e] at q; exact q.elim
  | some ds =>
    rw [e] at q
    obtain ⟨a, vs, rfl, hs, rs⟩ := seqA_ok hr ry e
    refine ho pins s σ H _ _ _ _ Q I ru rv ⟨a, vs, rfl, hs, flat_ok q.1 rx, flats_ok q.2.1 rs, ?_⟩
    rw [inD_ok q.1 rx q.2.1 rs]
    exact c.here hr (.bl _) q.2.2
theorem do_in : OpR X (compareOp .In) (lift2 X.K inR) := by
  intro pins s σ H u v u' v' Q I ru rv hx
  obtain ⟨h, x, y, Qd, hr, rx, ry, q, c⟩ := hx
  have q : inQ x y h fun b => Qd (.bl b) h := q
  unfold inQ at q
  split at q
  · cases rx; cases ry
    exact op_in_str pins s σ H _ _ _ _ Q I ru rv ⟨_, _, rfl, rfl, c.here hr (.bl _) q⟩
  · exact in_seq (neg := false) op_in_seq I ru rv hr rx ry c q
theorem do_nin : OpR X (compareOp .NotIn) (lift2 X.K ninR) := by
  intro pins s σ H u v u' v' Q I ru rv hx
  obtain ⟨h, x, y, Qd, hr, rx, ry, q, c⟩ := hx
  have q : inQ x y h fun b => Qd (.bl (!b)) h := q
  unfold inQ at q
  split at q
  · cases rx; cases ry
    exact op_notin_str pins s σ H _ _ _ _ Q I ru rv ⟨_, _, rfl, rfl, c.here hr (.bl _) q⟩
  · exact in_seq (neg := true) op_notIn_seq I ru rv hr rx ry c q
theorem do_is : OpR X (compareOp .Is) (lift2 X.K isR) := by
  intro pins s σ H u v u' v' Q I ru rv hx
  obtain ⟨h, x, y, Qd, hr, rx, ry, q, c⟩ := hx
  cases y with
  | non =>
    cases ry
    refine op_isN pins s σ H _ _ _ _ Q I ru rv ⟨rfl, ?_⟩
    have z := c.here hr (.bl _) q
    cases rx <;> simpa using z
  | bl b => cases x with
    | bl a => cases rx; cases ry; exact op_isBl pins s σ H _ _ _ _ Q I ru rv ⟨a, b, rfl, rfl, c.here hr (.bl _) q⟩
    | _ => exact q.elim
  | _ => exact q.elim
theorem do_isn : OpR X (compareOp .IsNot) (lift2 X.K isnR) := by
  intro pins s σ H u v u' v' Q I ru rv hx
  obtain ⟨h, x, y, Qd, hr, rx, ry, q, c⟩ := hx
  cases y with
  | non =>
    cases ry
    refine op_notN pins s σ H _ _ _ _ Q I ru rv ⟨rfl, ?_⟩
    have z := c.here hr (.bl _) q
    cases rx <;> simpa using z
  | bl b => cases x with
    | bl a => cases rx; cases ry; exact op_notBl pins s σ H _ _ _ _ Q I ru rv ⟨a, b, rfl, rfl, c.here hr (.bl _) q⟩
    | _ => exact q.elim
  | _ => exact q.elim
end

/-! ### truth, len -/
@[reducible] def truQ : D → Hd → (Bool → Prop) → Prop := fun d h Q => match d with
  | .non => Q false
  | .bl b => Q b
  | .int i => Q (i != 0)
  | .str x => x.length ≤ sizeLine ∧ Q ((x.length : Int) != 0)
  | .dct ks ds => Q (!ks.isEmpty)
  | d => match seqA h d with
    | some ds => Q (!ds.isEmpty)
    | none => False
@[reducible] def lenR : RD1 := fun d h Q => match d with
  | .str x => x.length ≤ sizeLine ∧ Q (.int x.length) h
  | d => match seqA h d with
    | some ds => Q (.int ds.length) h
    | none => False
section
variable {X : Cx}
theorem zip_isEmpty {α β : Type} : ∀ {l : List α} {m : List β}, l.length = m.length → (l.zip m).isEmpty = l.isEmpty
  | [], [], _ => rfl
  | [], _ :: _, e => by simp at e
  | _ :: _, [], e => by simp at e
  | _ :: _, _ :: _, _ => rfl
theorem isEmpty_len {α β : Type} {l : List α} {m : List β} (e : l.length = m.length) : l.isEmpty = m.isEmpty := by
  cases l <;> cases m <;> first | rfl | (simp at e; done)
theorem tru_ok2 {H : Hp} {h : Hd} {d : D} {v : V} {Q : Bool → Prop} (hr : HRel X.K H h) (r : Rep X.K H h d v) (q : truQ d h Q) : ∃ k, TruV X.K v H k ∧ Q k := by
  have seq : ∀ ds, seqA h d = some ds → Q (!ds.isEmpty) → ∃ k, TruV X.K v H k ∧ Q k := fun ds e q => by
    obtain ⟨a, vs, rfl, hs, rs⟩ := seqA_ok hr r e
    refine ⟨_, ?_, q⟩
    rw [isEmpty_len rs.length]
    rcases hs with hs | hs
    · exact .inl ⟨vs, hs, rfl⟩
    · exact .inr (.inl ⟨vs, hs, rfl⟩)
  have other : (match seqA h d with | some ds => Q (!ds.isEmpty) | none => False) → ∃ k, TruV X.K v H k ∧ Q k := fun q => by
    cases e : seqA h d with
    | none => rw [e] at q; exact q.elim
    | some ds => rw [e] at q; exact seq ds e q
  cases d with
  | non => cases r; exact ⟨_, rfl, q⟩
  | bl b => cases r; exact ⟨_, rfl, q⟩
  | int i => cases r; exact ⟨_, rfl, q⟩
  | str x => cases r; exact ⟨_, ⟨q.1, rfl⟩, q.2⟩
  | dct ks ds =>
    cases r with
    | dct e n l r => exact ⟨_, .inr (.inr ⟨_, e, by rw [zip_isEmpty l]⟩), q⟩
  | _ => exact other q
theorem do_len : CallR X (.builtin "len") (liftS X.K fun ds h Q => match ds with | [d] => lenR d h Q | _ => False) := by
  intro pins s σ H xs us Q I r hx
  obtain ⟨h, ds, Qd, hr, rs, q, c⟩ := hx
  cases rs with
  | nil => exact q.elim
  | cons r1 r2 =>
    cases r2 with
    | cons _ _ => exact q.elim
    | nil =>
      rename_i d v
      have q : lenR d h Qd := q
      have other : (match seqA h d with | some ds => Qd (.int ds.length) h | none => False) → wpAny (model X.prog X.w) X.A (call (.builtin "len") us) (EP X pins σ Q) X.xe s := fun q => by
        cases e : seqA h d with
        | none => rw [e] at q; exact q.elim
        | some ds =>
          rw [e] at q
          obtain ⟨a, vs, rfl, hs, rs⟩ := seqA_ok hr r1 e
          refine call_len pins s σ H _ us Q I r ⟨_, vs.length, rfl, ?_, ?_⟩
          · rcases hs with hs | hs
            · exact .inl ⟨vs, hs, rfl⟩
            · exact .inr ⟨vs, hs, rfl⟩
          · rw [← rs.length]; exact c.here hr (.int _) q
      cases d with
      | str x => cases r1; exact call_len pins s σ H _ us Q I r ⟨_, _, rfl, ⟨q.1, rfl⟩, c.here hr (.int _) q.2⟩
      | _ => exact other q
end

/-! ### items, slices -/
@[reducible] def ixR : RD2 := fun x y h Q => match y with
  | .int i => match x with
    | .str z => z.length ≤ sizeLine ∧ match atI z.cps.toList i with
      | some c => Q (.str ⟨#[c]⟩) h
      | none => False
    | x => match seqA h x with
      | some ds => match atI ds i with
        | some d => Q d h
        | none => False
      | none => False
  | _ => False
def cutD {α : Type} (xs : List α) (lo hi : Option Int) : List α := (xs.drop (HT.sIx xs.length 0 lo)).take (HT.sIx xs.length xs.length hi - HT.sIx xs.length 0 lo)
@[reducible] def slR (x : D) (lo hi : Option Int) (h : Hd) (Q : QD) : Prop := match x with
  | .str z => z.length ≤ sizeLine ∧ Q (.str (cutS z lo hi)) h
  | .tup ds => Q (.tup (cutD ds lo hi)) h
  | .scr is => Q (.lst (cutD (is.map D.int) lo hi)) h
  | x => match seqL h x with
    | some ds => Q (.lst (cutD ds lo hi)) h
    | none => False
section
variable {X : Cx}
theorem atI_rep {K : PySem.W.Frag} {H : Hp} {h : Hd} {ds : List D} {vs : List V} {i : Int} {d : D} (r : Reps K H h ds vs) (e : atI ds i = some d) : ∃ v, atI vs i = some v ∧ Rep K H h d v := by
  unfold atI at e ⊢
  rw [← r.length]
  cases q : ixN ds.length i with
  | none => rw [q] at e; cases e
  | some j =>
    rw [q] at e
    exact r.get e
theorem do_ix : IxR X (lift2 X.K ixR) := by
  intro va sl pins s σ H u v u' v' Q I ru rv hx hs
  obtain ⟨h, x, y, Qd, hr, rx, ry, q, c⟩ := hx
  cases y with
  | int i =>
    cases ry
    have other : (match seqA h x with | some ds => (match atI ds i with | some d => Qd d h | none => False) | none => False) → wpAny (model X.prog X.w) X.A (subscriptTail va sl u' v') (EP X pins σ Q) X.xe s := fun q => by
      cases e : seqA h x with
      | none => rw [e] at q; exact q.elim
      | some ds =>
        rw [e] at q
        dsimp only at q
        cases e2 : atI ds i with
        | none => rw [e2] at q; exact q.elim
        | some d =>
          rw [e2] at q
          obtain ⟨a, vs, rfl, hsq, rs⟩ := seqA_ok hr rx e
          obtain ⟨v, e3, rd⟩ := atI_rep rs e2
          rcases hsq with hsq | hsq
          · exact ix_list va sl pins s σ H _ _ _ _ Q I ru rv ⟨a, vs, i, v, rfl, rfl, hsq, e3, c.here hr rd q⟩ hs
          · exact ix_tup va sl pins s σ H _ _ _ _ Q I ru rv ⟨a, vs, i, v, rfl, rfl, hsq, e3, c.here hr rd q⟩ hs
    cases x with
    | str z =>
      cases rx
      obtain ⟨hz, q⟩ := q
      cases e2 : atI z.cps.toList i with
      | none => rw [e2] at q; exact q.elim
      | some d =>
        rw [e2] at q
        exact ix_str va sl pins s σ H _ _ _ _ Q I ru rv ⟨z, i, d, rfl, rfl, hz, e2, c.here hr (.str _) q⟩ hs
    | _ => exact other q
  | _ => exact q.elim
theorem cutD_rep {K : PySem.W.Frag} {H : Hp} {h : Hd} {ds : List D} {vs : List V} (r : Reps K H h ds vs) (lo hi : Option Int) : Reps K H h (cutD ds lo hi) (cutV vs lo hi) := by
  unfold cutD cutV
  rw [r.length]
  exact (r.drop _).take _
/-- a slice by data -/
def liftSl (K : PySem.W.Frag) : V → Option Int → Option Int → Hp → VK → Prop := fun u lo hi H Q => ∃ h x Qd, HRel K H h ∧ Rep K H h x u ∧ slR x lo hi h Qd ∧ Cl K h H Qd Q
theorem do_sl : SlR X (liftSl X.K) := by
  intro pins s σ H u u' vl vu lo hi sl Q I ru hsl pl pu hx
  obtain ⟨h, x, Qd, hr, rx, q, c⟩ := hx
  have lists : ∀ (a : Addr) (vs : List V) (ds : List D), u = .ref a → SqL X.K H a vs → Reps X.K H h ds vs → Qd (.lst (cutD ds lo hi)) h → ∃ T id, typeLookup (.type T) "__getitem__" = pure (some (.builtin id)) ∧ s.TypeIs u' T ∧ wpAny (model X.prog X.w) X.A (getItem u' (.ref sl)) (EP X pins σ Q) X.xe s := fun a vs ds e hs rs q => by
    subst e
    exact sl_list pins s σ H _ u' vl vu lo hi sl Q I ru hsl pl pu ⟨a, vs, rfl, hs, fun p n => c.fresh hr n (Rep.newL hr (cutD_rep rs lo hi) n) q⟩
  have other : (match seqL h x with | some ds => Qd (.lst (cutD ds lo hi)) h | none => False) → ∃ T id, typeLookup (.type T) "__getitem__" = pure (some (.builtin id)) ∧ s.TypeIs u' T ∧ wpAny (model X.prog X.w) X.A (getItem u' (.ref sl)) (EP X pins σ Q) X.xe s := fun q => by
    cases e : seqL h x with
    | none => rw [e] at q; exact q.elim
    | some ds =>
      rw [e] at q
      obtain ⟨a, vs, e1, hs, rs⟩ := seqL_ok hr rx e
      exact lists a vs ds e1 (.inl (.inl hs)) rs q
  cases x with
  | str z => cases rx; exact sl_str pins s σ H _ u' vl vu lo hi sl Q I ru hsl pl pu ⟨z, rfl, q.1, c.here hr (.str _) q.2⟩
  | tup ds =>
    obtain ⟨a, vs, rfl, hs, rs⟩ := rx.sqT
    refine sl_tupA pins s σ H _ u' vl vu lo hi sl Q I ru hsl pl pu ⟨a, vs, rfl, hs, fun hw => ?_, fun _ p n => c.fresh hr n (Rep.newT hr (cutD_rep rs lo hi) n) q⟩
    have e : cutD ds lo hi = ds := by
      unfold cutD
      rw [rs.length, hw.1, hw.2, ← rs.length]
      simp
    have q : Qd (.tup (cutD ds lo hi)) h := q
    rw [e] at q
    exact c.here hr rx q
  | scr is =>
    cases rx with
    | scr e => exact lists _ _ _ rfl e.sqL (Reps.ints _) q
  | _ => exact other q
end
end Y
namespace Y
open PySem PySem.Spec PyProof.Rows L2

/-! ### built-in calls -/
inductive Bif where
  | len | sum | abs | all | any | tuple | list | int | max | min | divmod | sorted
  deriving DecidableEq
def Bif.nm : Bif → Str
  | .len => "len" | .sum => "sum" | .abs => "abs" | .all => "all" | .any => "any" | .tuple => "tuple" | .list => "list" | .int => "int" | .max => "max" | .min => "min" | .divmod => "divmod" | .sorted => "sorted"
def Bif.val : Bif → Value
  | .len => .builtin "len" | .sum => .builtin "sum" | .abs => .builtin "abs" | .all => .builtin "all" | .any => .builtin "any" | .tuple => .type "tuple" | .list => .type "list" | .int => .type "int" | .max => .builtin "max" | .min => .builtin "min"
  | .divmod => .builtin "divmod" | .sorted => .builtin "sorted"
@[reducible] def one (r : RD1) : RDs := fun ds h Q => match ds with
  | [d] => r d h Q
  | _ => False
@[reducible] def two (r : RD2) : RDs := fun ds h Q => match ds with
  | [d, e] => r d e h Q
  | _ => False
@[reducible] def sumR : RD1 := fun d h Q => match seqA h d with
  | some ds => match intsOf ds with
    | some is => Q (.int is.sum) h
    | none => False
  | none => False
@[reducible] def absR : RD1 := fun d h Q => match d with
  | .int i => Q (.int (if i < 0 then -i else i)) h
  | _ => False
@[reducible] def allR : RD1 := fun d h Q => match seqL h d with
  | some ds => match blsOf ds with
    | some bs => Q (.bl (bs.all id)) h
    | none => False
  | none => False
@[reducible] def anyR : RD1 := fun d h Q => match seqL h d with
  | some ds => match blsOf ds with
    | some bs => Q (.bl (bs.any id)) h
    | none => False
  | none => False
@[reducible] def tupleR : RD1 := fun d h Q => match seqA h d with
  | some ds => Q (.tup ds) h
  | none => False
@[reducible] def listR : RD1 := fun d h Q => match seqA h d with
  | some ds => Q (.lst ds) h
  | none => False
@[reducible] def intR : RD1 := fun d h Q => match d with
  | .int i => Q (.int i) h
  | .bl b => Q (.int (if b then 1 else 0)) h
  | _ => False
/-- the greatest, the least of some ints -/
def maxL : List Int → Int
  | [] => 0
  | [i] => i
  | i :: j :: r => max i (maxL (j :: r))
def minL : List Int → Int
  | [] => 0
  | [i] => i
  | i :: j :: r => min i (minL (j :: r))
theorem maxL_mem : ∀ {l : List Int}, l ≠ [] → maxL l ∈ l ∧ ∀ y ∈ l, y ≤ maxL l
  | [], h => absurd rfl h
  | [i], _ => ⟨List.mem_cons_self, fun y hy => by
    rcases List.mem_cons.mp hy with e | e
    · subst e; exact Int.le_refl _
    · cases e⟩
  | i :: j :: r, _ => by
    obtain ⟨h1, h2⟩ := maxL_mem (l := j :: r) (by simp)
    show max i (maxL (j :: r)) ∈ i :: j :: r ∧ ∀ y ∈ i :: j :: r, y ≤ max i (maxL (j :: r))
    refine ⟨?_, fun y hy => ?_⟩
    · by_cases c : i ≤ maxL (j :: r)
      · rw [Int.max_eq_right c]; exact List.mem_cons_of_mem _ h1
      · rw [Int.max_eq_left (by omega)]; exact List.mem_cons_self
    · rcases List.mem_cons.mp hy with e | hy
      · subst e; omega
      · have := h2 y hy; omega
theorem minL_mem : ∀ {l : List Int}, l ≠ [] → minL l ∈ l ∧ ∀ y ∈ l, minL l ≤ y
  | [], h => absurd rfl h
  | [i], _ => ⟨List.mem_cons_self, fun y hy => by
    rcases List.mem_cons.mp hy with e | e
    · subst e; exact Int.le_refl _
    · cases e⟩
  | i :: j :: r, _ => by
    obtain ⟨h1, h2⟩ := minL_mem (l := j :: r) (by simp)
    show min i (minL (j :: r)) ∈ i :: j :: r ∧ ∀ y ∈ i :: j :: r, min i (minL (j :: r)) ≤ y
    refine ⟨?_, fun y hy => ?_⟩
    · by_cases c : i ≤ minL (j :: r)
      · rw [Int.min_eq_left c]; exact List.mem_cons_self
      · rw [Int.min_eq_right (by omega)]; exact List.mem_cons_of_mem _ h1
    · rcases List.mem_cons.mp hy with e | hy
      · subst e; omega
      · have := h2 y hy; omega
@[reducible] def maxR : RDs := fun ds h Q => match ds with
  | [d] => match seqL h d with
    | some ds => match intsOf ds with
      | some is => is ≠ [] ∧ Q (.int (maxL is)) h
      | none => False
    | none => False
  | [.int i, .int j] => Q (.int (max i j)) h
  | _ => False
@[reducible] def minR : RDs := fun ds h Q => match ds with
  | [d] => match seqL h d with
    | some ds => match intsOf ds with
      | some is => is ≠ [] ∧ Q (.int (minL is)) h
      | none => False
    | none => False
  | [.int i, .int j] => Q (.int (min i j)) h
  | _ => False
@[reducible] def divmodR : RD2 := fun x y h Q => match x, y with
  | .int i, .int j => DivOk j ∧ Q (.tup [.int (i / j), .int (i % j)]) h
  | _, _ => False
/-- sorted: ints, texts -/
@[reducible] def sortedR : RD1 := fun d h Q => match seqL h d with
  | some ds => (∃ is, intsOf ds = some is ∧ is.length < 64 ∧ ∀ is' : List Int, is'.Perm is → is'.Pairwise (· ≤ ·) → Q (.lst (is'.map D.int)) h) ∨
    ∃ is, strsOf ds = some is ∧ is.length < 64 ∧ ∀ is' : List Str, is'.Perm is → sortedS is' = true → Q (.lst (is'.map D.str)) h
  | none => False
@[reducible] def bifR : Bif → RDs
  | .len => one lenR | .sum => one sumR | .abs => one absR | .all => one allR | .any => one anyR | .tuple => one tupleR | .list => one listR | .int => one intR | .max => maxR | .min => minR | .divmod => two divmodR | .sorted => one sortedR
section
variable {X : Cx}
theorem one_ok {f : Value} {r : RD1} (h : ∀ (pins : List (Addr × Obj)) (s : Shared) (σ : L2.St) (H : Hp) (v : V) (u : Value) (Q : VK) (h : Hd) (d : D) (Qd : QD), Inv X pins σ H s → RelV v u → HRel X.K H h → Rep X.K H h d v → r d h Qd → Cl X.K h H Qd Q →
    wpAny (model X.prog X.w) X.A (call f [u]) (EP X pins σ Q) X.xe s) : CallR X f (liftS X.K (one r)) := by
  intro pins s σ H xs us Q I rv hx
  obtain ⟨hd, ds, Qd, hr, rs, q, c⟩ := hx
  cases rs with
  | nil => exact q.elim
  | cons r1 r2 =>
    cases r2 with
    | cons _ _ => exact q.elim
    | nil =>
      obtain ⟨u, rfl, ru⟩ := vals1 rv
      exact h pins s σ H _ u Q hd _ Qd I ru hr r1 q c
theorem two_ok {f : Value} {r : RD2} (h : ∀ (pins : List (Addr × Obj)) (s : Shared) (σ : L2.St) (H : Hp) (v v2 : V) (u u2 : Value) (Q : VK) (h : Hd) (d d2 : D) (Qd : QD), Inv X pins σ H s → RelV v u → RelV v2 u2 → HRel X.K H h → Rep X.K H h d v → Rep X.K H h d2 v2 → r d d2 h Qd → Cl X.K h H Qd Q →
    wpAny (model X.prog X.w) X.A (call f [u, u2]) (EP X pins σ Q) X.xe s) : CallR X f (liftS X.K (two r)) := by
  intro pins s σ H xs us Q I rv hx
  obtain ⟨hd, ds, Qd, hr, rs, q, c⟩ := hx
  cases rs with
  | nil => exact q.elim
  | cons r1 r2 =>
    cases r2 with
    | nil => exact q.elim
    | cons r2 r3 =>
      cases r3 with
      | cons _ _ => exact q.elim
      | nil =>
        obtain ⟨u, u2, rfl, ru, ru2⟩ := vals2 rv
        exact h pins s σ H _ _ u u2 Q hd _ _ Qd I ru ru2 hr r1 r2 q c
theorem rel1 {v : V} {u : Value} (r : RelV v u) : Vals [v] [u] := .cons r .nil
theorem rel2 {v w : V} {u t : Value} (r : RelV v u) (q : RelV w t) : Vals [v, w] [u, t] := .cons r (.cons q .nil)
theorem preSum_getD' (l : List Int) : ∀ j, preSum (fun i => l.getD i 0) j = (l.take j).sum
  | 0 => by simp [preSum]
  | j + 1 => by
    rw [preSum, preSum_getD' l j, List.take_succ, List.sum_append]
    cases e : l[j]? with
    | none => simp [List.getD, e]
    | some v => simp [List.getD, e]
theorem preSum_ints {its : List Value} {ns : List Int} (hi : IntsAre its ns) : preSum (fun i => ns.getD i 0) ns.length = ns.sum := by
  rw [preSum_getD', List.take_of_length_le (Nat.le_refl _)]
theorem sum_tup {pins : List (Addr × Obj)} {s : Shared} {σ : L2.St} {H : Hp} {a : Addr} {ns : List Int} {Q : VK} (hc : X.calm = true) (I : Inv X pins σ H s) (hs : SqT X.K H a (ns.map V.int)) (q : Q (.int ns.sum) H) :
    wpAny (model X.prog X.w) X.A (call (.builtin "sum") [.ref a]) (EP X pins σ Q) X.xe s := by
  obtain ⟨its, rv, ht, _⟩ := I.tuple hs
  have hi := rv.ints
  have hh := I.ok.hd hc
  have hlt : a < s.heap.objs.size := ht.lt
  have hlen : its.length = ns.length := hi.length
  refine call_sum_walkG (wpAny_pyIter_tuple (items := its.toArray) ht ?_)
  refine ⟨_, _, _, _, _, _, fun i => ns.getD i 0, rfl, Walks.tuple (A := X.A.in1) hh s.heap.objs.size a (Nat.ne_of_lt hlt) its.toArray, ⟨⟨_, Heap.get?_push_size _ rfl, rfl, rfl⟩, ?_⟩, fun b hb => ?_, fun i v hv => ?_, fun h' tk t' hk => ?_⟩
  · obtain ⟨o, ho, r⟩ := ht
    exact ⟨o, Heap.get?_push_of_some _ ho, r⟩
  · show b < (s.heap.push _).objs.size
    rw [Heap.size_push]
    rcases List.mem_cons.mp hb with rfl | hb
    · exact Nat.lt_succ_self _
    · rcases List.mem_cons.mp hb with rfl | hb
      · exact Nat.lt_succ_of_lt hlt
      · cases hb
  · have hv : its[i]? = some v := by simpa using hv
    have hil : i < ns.length := by rw [← hlen]; exact (List.getElem?_eq_some_iff.mp hv).1
    have hi2 : (ns.map V.int)[i]? = some (V.int ns[i]) := by simp [hil]
    obtain ⟨u, e1, e2⟩ := rv.get hi2
    rw [hv] at e1; cases e1
    obtain ⟨t, rfl⟩ := e2
    exact ⟨t, by simp [hil]⟩
  · have e : its.toArray.size = ns.length := by simp [hlen]
    rw [e, preSum_ints hi]
    refine ⟨.int _, H, I.kept (t' := tk) (fun b o e => hk b o ?_ (Heap.get?_push_of_some _ e)), ⟨_, rfl⟩, q⟩
    simp only [List.mem_singleton]
    exact Nat.ne_of_lt (Heap.lt_size e)
theorem do_sum (hc : X.calm = true) : CallR X (.builtin "sum") (liftS X.K (one sumR)) := one_ok fun pins s σ H v u Q h d Qd I ru hr r q c => by
  unfold sumR at q
  cases e : seqA h d with
  | none => rw [e] at q; exact q.elim
  | some ds =>
    rw [e] at q
    dsimp only at q
    cases e2 : intsOf ds with
    | none => rw [e2] at q; exact q.elim
    | some is =>
      rw [e2] at q
      obtain ⟨a, vs, rfl, hs, rs⟩ := seqA_ok hr r e
      rw [intsOf_eq e2] at rs
      obtain rfl := rs.toInts
      rcases hs with hs | hs
      · exact cr_sum hc pins s σ H _ _ Q I (rel1 ru) ⟨a, is, rfl, hs, c.here hr (.int _) q⟩
      · cases ru
        exact sum_tup hc I hs (c.here hr (.int _) q)
theorem do_abs : CallR X (.builtin "abs") (liftS X.K (one absR)) := one_ok fun pins s σ H v u Q h d Qd I ru hr r q c => by
  cases d with
  | int i => cases r; exact call_abs pins s σ H _ _ Q I (rel1 ru) ⟨i, rfl, c.here hr (.int _) q⟩
  | _ => exact q.elim
theorem do_all (hc : X.calm = true) : CallR X (.builtin "all") (liftS X.K (one allR)) := one_ok fun pins s σ H v u Q h d Qd I ru hr r q c => by
  unfold allR at q
  cases e : seqL h d with
  | none => rw [e] at q; exact q.elim
  | some ds =>
    rw [e] at q
    dsimp only at q
    cases e2 : blsOf ds with
    | none => rw [e2] at q; exact q.elim
    | some is =>
      rw [e2] at q
      obtain ⟨a, vs, rfl, hs, rs⟩ := seqL_ok hr r e
      rw [blsOf_eq e2] at rs
      obtain rfl := rs.toBls
      exact cr_all hc pins s σ H _ _ Q I (rel1 ru) ⟨a, is, rfl, .inl (.inl hs), c.here hr (.bl _) q⟩
theorem do_any (hc : X.calm = true) : CallR X (.builtin "any") (liftS X.K (one anyR)) := one_ok fun pins s σ H v u Q h d Qd I ru hr r q c => by
  unfold anyR at q
  cases e : seqL h d with
  | none => rw [e] at q; exact q.elim
  | some ds =>
    rw [e] at q
    dsimp only at q
    cases e2 : blsOf ds with
    | none => rw [e2] at q; exact q.elim
    | some is =>
      rw [e2] at q
      obtain ⟨a, vs, rfl, hs, rs⟩ := seqL_ok hr r e
      rw [blsOf_eq e2] at rs
      obtain rfl := rs.toBls
      exact cr_any hc pins s σ H _ _ Q I (rel1 ru) ⟨a, is, rfl, .inl (.inl hs), c.here hr (.bl _) q⟩
theorem do_tuple : CallR X (.type "tuple") (liftS X.K (one tupleR)) := one_ok fun pins s σ H v u Q h d Qd I ru hr r q c => by
  unfold tupleR at q
  cases e : seqA h d with
  | none => rw [e] at q; exact q.elim
  | some ds =>
    rw [e] at q
    obtain ⟨a, vs, rfl, hs, rs⟩ := seqA_ok hr r e
    rcases hs with hs | hs
    · exact call_tuple_of pins s σ H _ _ Q I (rel1 ru) ⟨a, vs, rfl, .inl ⟨hs, fun l n => c.fresh hr n (Rep.newT hr rs n) q⟩⟩
    · refine call_tuple_of pins s σ H _ _ Q I (rel1 ru) ⟨a, vs, rfl, .inr ⟨hs, ?_⟩⟩
      -- the tuple itself
      cases d with
      | tup es => cases e; exact c.here hr r q
      | scr is =>
        cases r with
        | scr e' =>
          have hl := e'.sqL
          obtain ⟨its, _, ⟨o, n, ho, hc1, _⟩, _⟩ := I.list hl
          obtain ⟨its2, _, ⟨o2, ho2, hc2, _⟩, _⟩ := I.tuple hs
          rw [ho] at ho2; cases ho2; rw [hc1] at hc2; exact absurd (Value.type.inj hc2) (by decide)
      | _ =>
        obtain ⟨b, us, e1, hb, rb⟩ := seqL_ok hr r (show seqL h _ = some ds from e)
        cases e1
        obtain ⟨its, _, ⟨o, n, ho, hc1, _⟩, _⟩ := I.list (.inl (.inl hb))
        obtain ⟨its2, _, ⟨o2, ho2, hc2, _⟩, _⟩ := I.tuple hs
        rw [ho] at ho2; cases ho2; rw [hc1] at hc2; exact absurd (Value.type.inj hc2) (by decide)
theorem do_list : CallR X (.type "list") (liftS X.K (one listR)) := one_ok fun pins s σ H v u Q h d Qd I ru hr r q c => by
  unfold listR at q
  cases e : seqA h d with
  | none => rw [e] at q; exact q.elim
  | some ds =>
    rw [e] at q
    obtain ⟨a, vs, rfl, hs, rs⟩ := seqA_ok hr r e
    exact call_list_of pins s σ H _ _ Q I (rel1 ru) ⟨a, vs, rfl, hs, fun l n => c.fresh hr n (Rep.newL hr rs n) q⟩
theorem do_int : CallR X (.type "int") (liftS X.K (one intR)) := one_ok fun pins s σ H v u Q h d Qd I ru hr r q c => by
  cases d with
  | int i => cases r; exact call_int1 pins s σ H _ _ Q I (rel1 ru) (.inl ⟨i, rfl, c.here hr (.int _) q⟩)
  | bl i => cases r; exact call_int1 pins s σ H _ _ Q I (rel1 ru) (.inr ⟨i, rfl, c.here hr (.int _) q⟩)
  | _ => exact q.elim
theorem max_one {l : List Int} {m : Int} (hn : l ≠ []) (h1 : m ∈ l) (h2 : ∀ y ∈ l, y ≤ m) : m = maxL l := by
  obtain ⟨a, b⟩ := maxL_mem hn
  have := h2 _ a
  have := b _ h1
  omega
theorem min_one {l : List Int} {m : Int} (hn : l ≠ []) (h1 : m ∈ l) (h2 : ∀ y ∈ l, m ≤ y) : m = minL l := by
  obtain ⟨a, b⟩ := minL_mem hn
  have := h2 _ a
  have := b _ h1
  omega
theorem do_max (hc : X.calm = true) : CallR X (.builtin "max") (liftS X.K maxR) := by
  intro pins s σ H xs us Q I rv hx
  obtain ⟨h, ds, Qd, hr, rs, q, c⟩ := hx
  unfold maxR at q
  split at q
  · rename_i d
    cases e : seqL h d with
    | none => rw [e] at q; exact q.elim
    | some ds =>
      rw [e] at q
      dsimp only at q
      cases e2 : intsOf ds with
      | none => rw [e2] at q; exact q.elim
      | some is =>
        rw [e2] at q
        cases rs with
        | cons r1 r2 =>
          cases r2
          obtain ⟨a, vs, rfl, hs, rs⟩ := seqL_ok hr r1 e
          rw [intsOf_eq e2] at rs
          obtain rfl := rs.toInts
          refine cr_max hc pins s σ H _ _ Q I rv ⟨a, is, rfl, .inl (.inl hs), List.length_pos_iff.mpr q.1, fun m h1 h2 => ?_⟩
          rw [max_one q.1 h1 h2]
          exact c.here hr (.int _) q.2
  · rename_i i j
    cases rs with
    | cons r1 r2 =>
      cases r2 with
      | cons r2 r3 =>
        cases r3
        cases r1; cases r2
        refine call_max2 hc pins s σ H _ _ Q I rv ⟨i, j, rfl, ?_⟩
        have e : (if j > i then j else i) = max i j := by split <;> omega
        rw [e]
        exact c.here hr (.int _) q
  · exact q.elim
theorem do_min (hc : X.calm = true) : CallR X (.builtin "min") (liftS X.K minR) := by
  intro pins s σ H xs us Q I rv hx
  obtain ⟨h, ds, Qd, hr, rs, q, c⟩ := hx
  unfold minR at q
  split at q
  · rename_i d
    cases e : seqL h d with
    | none => rw [e] at q; exact q.elim
    | some ds =>
      rw [e] at q
      dsimp only at q
      cases e2 : intsOf ds with
      | none => rw [e2] at q; exact q.elim
      | some is =>
        rw [e2] at q
        cases rs with
        | cons r1 r2 =>
          cases r2
          obtain ⟨a, vs, rfl, hs, rs⟩ := seqL_ok hr r1 e
          rw [intsOf_eq e2] at rs
          obtain rfl := rs.toInts
          refine cr_min hc pins s σ H _ _ Q I rv ⟨a, is, rfl, .inl (.inl hs), List.length_pos_iff.mpr q.1, fun m h1 h2 => ?_⟩
          rw [min_one q.1 h1 h2]
          exact c.here hr (.int _) q.2
  · rename_i i j
    cases rs with
    | cons r1 r2 =>
      cases r2 with
      | cons r2 r3 =>
        cases r3
        cases r1; cases r2
        refine call_min2 hc pins s σ H _ _ Q I rv ⟨i, j, rfl, ?_⟩
        have e : (if j < i then j else i) = min i j := by split <;> omega
        rw [e]
        exact c.here hr (.int _) q
  · exact q.elim
theorem do_divmod : CallR X (.builtin "divmod") (liftS X.K (two divmodR)) := two_ok fun pins s σ H v v2 u u2 Q h d d2 Qd I ru ru2 hr r r2 q c => by
  cases d with
  | int i =>
    cases d2 with
    | int j =>
      cases r; cases r2
      refine call_divmodW pins s σ H _ _ Q I (rel2 ru ru2) ⟨i, j, rfl, ⟨q.1.1, PyProof.noPylong_of_log2 q.1.2⟩, fun p n => ?_⟩
      exact c.fresh hr n (Rep.newT hr (.cons (.int _) (.cons (.int _) .nil)) n) q.2
    | _ => exact q.elim
  | _ => exact q.elim
theorem do_sorted : CallR X (.builtin "sorted") (liftS X.K (one sortedR)) := one_ok fun pins s σ H v u Q h d Qd I ru hr r q c => by
  unfold sortedR at q
  cases e : seqL h d with
  | none => rw [e] at q; exact q.elim
  | some ds =>
    rw [e] at q
    dsimp only at q
    obtain ⟨a, vs, rfl, hs, rs⟩ := seqL_ok hr r e
    rcases q with ⟨is, e2, hl, q⟩ | ⟨is, e2, hl, q⟩
    · rw [intsOf_eq e2] at rs
      obtain rfl := rs.toInts
      refine cr_sorted pins s σ H _ _ Q I (rel1 ru) ⟨a, is, rfl, .inl (.inl hs), hl, fun ns p h1 h2 n => ?_⟩
      exact c.fresh hr n (Rep.newL hr (Reps.ints ns) n) (q ns h1 h2)
    · rw [strsOf_eq e2] at rs
      obtain rfl := rs.toStrs
      refine cr_sortedS pins s σ H _ _ Q I (rel1 ru) ⟨a, is, rfl, .inl (.inl hs), hl, fun ns p h1 h2 n => ?_⟩
      exact c.fresh hr n (Rep.newL hr (Reps.strs ns) n) (q ns h1 h2)
theorem bif_ok (hc : X.calm = true) : ∀ b : Bif, CallR X b.val (liftS X.K (bifR b))
  | .len => do_len
  | .sum => do_sum hc
  | .abs => do_abs
  | .all => do_all hc
  | .any => do_any hc
  | .tuple => do_tuple
  | .list => do_list
  | .int => do_int
  | .max => do_max hc
  | .min => do_min hc
  | .divmod => do_divmod
  | .sorted => do_sorted
theorem bif_boot (b : Bif) : bootBuiltins b.nm = some b.val := by
  cases b <;> decide +kernel
end
/-! ### methods of built-in types -/
inductive Mth where
  | append | join
  deriving DecidableEq
def Mth.nm : Mth → Str
  | .append => "append" | .join => "join"
def Mth.ty : Mth → String
  | .append => "list" | .join => "str"
def Mth.id : Mth → String
  | .append => "list.append" | .join => "str.join"
@[reducible] def isTyM : Mth → D → Hd → Prop
  | .append, d, h => ∃ ds, seqL h d = some ds
  | .join, d, _ => ∃ x, d = .str x
@[reducible] def appR : RD2 := fun x y h Q => match x with
  | .ref a => match h a with
    | some (.lst ds) => ds.length < sizeLine ∧ Q .non (hupd h a (.lst (ds ++ [y])))
    | _ => False
  | _ => False
@[reducible] def joinR : RD2 := fun x y h Q => match x with
  | .str a => match seqA h y with
    | some ds => match strsOf ds with
      | some ys => (ys.map (·.length)).sum + ys.length * a.length ≤ 16777216 ∧ Q (.str (Txt.join a ys)) h
      | none => False
    | none => False
  | _ => False
@[reducible] def mthR : Mth → D → List D → Hd → QD → Prop
  | .append => fun x ds h Q => match ds with
    | [y] => appR x y h Q
    | _ => False
  | .join => fun x ds h Q => match ds with
    | [y] => joinR x y h Q
    | _ => False
section
variable {X : Cx}
theorem isTyM_ok {m : Mth} {d : D} {h : Hd} {H : Hp} {v : V} (hr : HRel X.K H h) (r : Rep X.K H h d v) (t : isTyM m d h) : tyV X.K m.ty v H := by
  cases m with
  | append =>
    obtain ⟨ds, e⟩ := t
    obtain ⟨a, vs, rfl, hs, _⟩ := seqL_ok hr r e
    exact .inl ⟨rfl, vs, .inl (.inl hs)⟩
  | join =>
    obtain ⟨x, rfl⟩ := t
    cases r
    exact rfl
theorem do_append {pins : List (Addr × Obj)} {s : Shared} {σ : L2.St} {H : Hp} {v v2 : V} {u u2 : Value} {Q : VK} {h : Hd} {x y : D} {Qd : QD} (I : Inv X pins σ H s) (ru : RelV v u) (ru2 : RelV v2 u2) (hr : HRel X.K H h) (r : Rep X.K H h x v) (r2 : Rep X.K H h y v2) (q : appR x y h Qd) (c : Cl X.K h H Qd Q) :
    wpAny (model X.prog X.w) X.A (call (.builtin "list.append") [u, u2]) (EP X pins σ Q) X.xe s := by
  unfold appR at q
  split at q
  · rename_i a
    cases r
    split at q
    · rename_i ds e
      obtain ⟨vs, e1, r1⟩ := hr a _ e
      refine mt_append pins s σ H _ _ _ _ Q I ru (rel1 ru2) ⟨a, vs, v2, rfl, rfl, e1, by rw [← r1.length]; exact q.1, ?_⟩
      refine c .non (hupd h a (.lst (ds ++ [y]))) _ _ (Frm.put e (fun z => nomatch z)) (hr.put e (fun z => nomatch z) ?_) .non q.2
      exact ⟨_, upd_same, (r1.append (.cons r2 .nil)).frm (Frm.put e (fun z => nomatch z))⟩
    · exact q.elim
  · exact q.elim
theorem do_join {pins : List (Addr × Obj)} {s : Shared} {σ : L2.St} {H : Hp} {v v2 : V} {u u2 : Value} {Q : VK} {h : Hd} {x y : D} {Qd : QD} (I : Inv X pins σ H s) (ru : RelV v u) (ru2 : RelV v2 u2) (hr : HRel X.K H h) (r : Rep X.K H h x v) (r2 : Rep X.K H h y v2) (q : joinR x y h Qd) (c : Cl X.K h H Qd Q) :
    wpAny (model X.prog X.w) X.A (call (.builtin "str.join") [u, u2]) (EP X pins σ Q) X.xe s := by
  unfold joinR at q
  split at q
  · cases r
    split at q
    · rename_i ds e
      split at q
      · rename_i ys e2
        obtain ⟨a, vs, rfl, hs, rs⟩ := seqA_ok hr r2 e
        rw [strsOf_eq e2] at rs
        obtain rfl := rs.toStrs
        exact mt_join pins s σ H _ _ _ _ Q I ru (rel1 ru2) ⟨_, a, ys, rfl, rfl, hs, q.1, c.here hr (.str _) q.2⟩
      · exact q.elim
    · exact q.elim
  · exact q.elim
theorem mth_one {id : String} {r : RD2} (h : ∀ {pins : List (Addr × Obj)} {s : Shared} {σ : L2.St} {H : Hp} {v v2 : V} {u u2 : Value} {Q : VK} {h : Hd} {x y : D} {Qd : QD}, Inv X pins σ H s → RelV v u → RelV v2 u2 → HRel X.K H h → Rep X.K H h x v → Rep X.K H h y v2 → r x y h Qd → Cl X.K h H Qd Q →
    wpAny (model X.prog X.w) X.A (call (.builtin id) [u, u2]) (EP X pins σ Q) X.xe s) : MtR X id (liftM X.K fun x ds h Q => match ds with
    | [y] => r x y h Q
    | _ => False) := by
  intro pins s σ H x xs v us Q I rx rxs hx
  obtain ⟨hd, d, ds, Qd, hr, rd, rds, q, c⟩ := hx
  cases rds with
  | nil => exact q.elim
  | cons r1 r2 =>
    cases r2 with
    | cons _ _ => exact q.elim
    | nil =>
      obtain ⟨u, rfl, ru⟩ := vals1 rxs
      exact h I rx ru hr rd r1 q c
theorem mth_ok : ∀ m : Mth, MtR X m.id (liftM X.K (mthR m))
  | .append => mth_one do_append
  | .join => mth_one do_join
theorem mth_pa : ∀ m : Mth, PlainAttrs m.ty
  | .append => F.plainAttrs_list
  | .join => F.plainAttrs_str
theorem mth_slot : ∀ m : Mth, Slot m.ty m.nm m.id
  | .append => F.slot_list_append
  | .join => F.slot_str_join
theorem mth_type : ∀ m : Mth, typeOf (.builtin m.id) = pure (.type "method_descriptor")
  | .append => F.type_list_append
  | .join => F.type_str_join
end
end Y
namespace Y
open PySem PySem.Spec PyProof.Rows L2

/-! ### the small syntax -/
inductive Op2 where
  | add | sub | mul | fdiv | mod | pow | addM
  deriving DecidableEq
inductive Ty where
  | int | bool | str | tuple | list
  deriving DecidableEq
mutual
inductive E where
  | non | bl (b : Bool) | int (i : Int) | str (x : Str)
  | loc (i : Nat) | glo (k : Nat)
  | op (o : Op2) (a b : E) | neg (a : E)
  | cmp (c : CmpOp) (a b : E) | chn (c c' : CmpOp) (a b d : E)
  | andE (a b : E) | orE (a b : E) | notE (a : E) | ife (c a b : E)
  | tup (es : Es) | lst (m : Bool) (es : Es)
  | ix (a i : E) | slc (a l u : E) | rev (a : E)
  | bif (b : Bif) (as : Es) | isi (a : E) (t : Ty)
  | call (f sh : Nat) (as kas : Es)
  | mth (o : E) (m : Mth) (as : Es)
  | comp (m : Bool) (own : List Nat) (e : E) (t : Tg) (it : It) (cs : Es)
  | frz (a : E)
inductive Es where
  | nil | cons (e : E) (r : Es)
inductive Tg where
  | nm (i : Nat) | tp (ts : Tgs) | sb (a i : E)
inductive Tgs where
  | nil | cons (t : Tg) (r : Tgs)
inductive It where
  | seq (a : E) | rg1 (a : E) | rg2 (a b : E) | rg3 (a b c : E) | enm (a : E) | zip (a b : E)
end
mutual
inductive S where
  | asg (t : Tg) (e : E) | par (is : List Nat) (es : Es)
  | aug (i : Nat) (o : Op2) (e : E) | augS (a i : E) (o : Op2) (e : E)
  | ifS (c : E) (a b : Ss) | whl (c : E) (b : Ss) | forS (t : Tg) (it : It) (b : Ss)
  | ret (e : E) | retN | expr (e : E) | pass | brk | cnt | never
  | frz (i : Nat)
inductive Ss where
  | nil | cons (s : S) (r : Ss)
end

/-! ### what is promised of a def, by data -/
abbrev Spec := List D → Hd → QD → QX → Prop
/-- how arguments come to parameters -/
inductive Src where
  | p (i : Nat) | k (i : Nat) | cn | cb (b : Bool) | ci (i : Int) | cs (x : Str)
def Src.d (ds es : List D) : Src → Option D
  | .p i => ds[i]?
  | .k i => es[i]?
  | .cn => some .non
  | .cb b => some (.bl b)
  | .ci i => some (.int i)
  | .cs x => some (.str x)
def Src.v (vs ws : List V) : Src → Option V
  | .p i => vs[i]?
  | .k i => ws[i]?
  | .cn => some .non
  | .cb b => some (.bl b)
  | .ci i => some (.int i)
  | .cs x => some (.str x)
structure Shape where
  n : Nat
  ks : List Str
  pl : List Src
structure FnI where
  name : Str
  ps : List Str
  shapes : List Shape
def pickD (pl : List Src) (ds es : List D) : Option (List D) := pl.mapM (Src.d ds es)
def pickV (pl : List Src) (vs ws : List V) : Option (List V) := pl.mapM (Src.v vs ws)
/-- the program, for the walk: promises, constants, shapes -/
structure Prg where
  Φ : Nat → Spec
  Γ : Nat → D
  sh : Nat → Nat → Shape

/-! ### what must hold -/
/-- two lists side by side: a new one that may be changed -/
@[reducible] def addM : RD2 := fun x y h Q => match seqL h x, seqL h y with
  | some ds, some es => ds.length + es.length ≤ sizeLine ∧ ∀ a, h a = none → Q (.ref a) (hupd h a (.lst (ds ++ es)))
  | _, _ => False
@[reducible] def opR : Op2 → RD2
  | .addM => addM
  | .add => addR | .sub => subR | .mul => mulR | .fdiv => fdivR | .mod => modR | .pow => powR
@[reducible] def cmpR : CmpOp → RD2
  | .Eq => eqR | .NotEq => neR | .Lt => ltR | .LtE => leR | .Gt => gtR | .GtE => geR | .Is => isR | .IsNot => isnR | .In => inR | .NotIn => ninR
/-- a yes or no -/
@[reducible] def blQ (Q : Bool → Hd → Prop) : QD := fun d h => match d with
  | .bl b => Q b h
  | _ => False
@[reducible] def tyIs : Ty → D → Option Bool
  | t, .non => some false
  | t, .bl _ => some (match t with | .int => true | .bool => true | _ => false)
  | t, .int _ => some (match t with | .int => true | _ => false)
  | t, .str _ => some (match t with | .str => true | _ => false)
  | t, .tup _ => some (match t with | .tuple => true | _ => false)
  | t, .lst _ => some (match t with | .list => true | _ => false)
  | _, _ => none
@[reducible] def isiR (t : Ty) : RD1 := fun d h Q => match tyIs t d with
  | some b => Q (.bl b) h
  | none => False
@[reducible] def isNonE : E → Bool
  | .non => true
  | _ => false
/-- a bound of a slice: none is written, or an int -/
@[reducible] def sizeOpt (l : Bool) (d : D) : Option (Option Int) := match l with
  | true => some none
  | false => match d with
    | .int i => some (some i)
    | _ => none
/-- a new list: a value, or one that may be changed -/
@[reducible] def mkL (m : Bool) (ds : List D) (h : Hd) (Q : QD) : Prop := if m = true then ∀ a, h a = none → Q (.ref a) (hupd h a (.lst ds)) else Q (.lst ds) h
/-- a name's value; a name gets a value -/
@[reducible] def lk : DEnv → Nat → Option D
  | [], _ => none
  | o :: _, 0 => o
  | _ :: r, n + 1 => lk r n
@[reducible] def stE : DEnv → Nat → D → DEnv
  | [], _, _ => []
  | _ :: r, 0, d => some d :: r
  | o :: r, n + 1, d => o :: stE r n d
/-- the same, walked to the place -/
@[reducible] def stK : DEnv → Nat → D → (DEnv → Prop) → Prop
  | [], _, _, k => k []
  | _ :: r, 0, d, k => k (some d :: r)
  | o :: r, n + 1, d, k => stK r n d fun r' => k (o :: r')
@[reducible] def noE : DEnv → Nat → DEnv
  | [], _ => []
  | _ :: r, 0 => none :: r
  | o :: r, n + 1 => o :: noE r n
theorem stK_eq : ∀ {ρ : DEnv} {i : Nat} {d : D} {k : DEnv → Prop}, stK ρ i d k = k (stE ρ i d)
  | [], _, _, _ => rfl
  | _ :: _, 0, _, _ => rfl
  | o :: r, n + 1, d, k => stK_eq (ρ := r) (i := n) (d := d) (k := fun r' => k (o :: r'))
theorem noE_set : ∀ {ρ : DEnv} {i : Nat}, noE ρ i = ρ.set i none
  | [], _ => rfl
  | _ :: _, 0 => rfl
  | o :: r, n + 1 => congrArg (o :: ·) (noE_set (ρ := r) (i := n))
theorem lk_get : ∀ {ρ : DEnv} {i : Nat} {d : D}, lk ρ i = some d → ρ[i]? = some (some d)
  | [], _, _, e => by cases e
  | o :: _, 0, d, e => by have e : o = some d := e; rw [e]; rfl
  | _ :: r, n + 1, d, e => by rw [List.getElem?_cons_succ]; exact lk_get (ρ := r) e
theorem stE_set : ∀ {ρ : DEnv} {i : Nat} {d : D}, stE ρ i d = ρ.set i (some d)
  | [], _, _ => rfl
  | _ :: _, 0, _ => rfl
  | o :: r, n + 1, d => congrArg (o :: ·) (stE_set (ρ := r) (i := n) (d := d))
@[reducible] def wipeE (ρ : DEnv) : List Nat → DEnv
  | [] => ρ
  | i :: is => noE (wipeE ρ is) i
@[reducible] def frzR : RD1 := fun d h Q => match d with
  | .ref a => match h a with
    | some (.lst ds) => Q (.lst ds) (hdel h a)
    | some (.ins C ns ds) => Q (.ins C ns ds) (hdel h a)
    | some (.dct ks ds) => Q (.dct ks ds) (hdel h a)
    | _ => False
  | d => Q d h
@[reducible] def revR : RD1 := fun d h Q => match d with
  | .tup ds => Q (.tup ds.reverse) h
  | d => match seqL h d with
    | some ds => Q (.lst ds.reverse) h
    | none => False
/-- the turns of a comprehension: ds to come, acc made -/
def loopC (t : D → DEnv → Hd → (DEnv → Hd → Prop) → QX → Prop) (c : DEnv → Hd → (Bool → Hd → Prop) → QX → Prop) (e : TD) (ρ : DEnv) (Q : List D → Hd → Prop) : List D → List D → Hd → Prop
  | [], acc, h => Q acc h
  | d :: ds, acc, h => t d ρ h (fun ρ1 h1 => c ρ1 h1 (fun b h2 => if b = true then e ρ1 h2 (fun y h3 => acc.length < sizeLine ∧ loopC t c e ρ Q ds (acc ++ [y]) h3) (fun _ _ => False) else loopC t c e ρ Q ds acc h2) (fun _ _ => False)) (fun _ _ => False)
@[reducible] def asInt (d : D) (Q : Int → Prop) : Prop := match d with
  | .int i => Q i
  | _ => False
theorem asInt_elim {d : D} {Q : Int → Prop} (h : asInt d Q) : ∃ i, d = .int i ∧ Q i := by
  cases d <;> first | exact ⟨_, rfl, h⟩ | exact h.elim
def rangeD (lo : Int) (n : Nat) (c : Int) : List D := (List.range n).map fun i : Nat => .int (lo + (i : Int) * c)
def inRange (i : Int) : Prop := -(2 ^ 62) ≤ i ∧ i < 2 ^ 62
/-- how many turns -/
def rgCount (i j c : Int) : Nat := if 0 < c then ((j - i + c - 1) / c).toNat else ((i - j + (-c) - 1) / (-c)).toNat
def enumD (ds : List D) : List D := ds.zipIdx.map fun p => .tup [.int p.2, p.1]
def zipD (ds es : List D) : List D := (ds.zip es).map fun p => .tup [p.1, p.2]
/-- a sequence that stays: a tuple, a list as a value, the script -/
@[reducible] def seqF : D → Option (List D)
  | .tup ds => some ds
  | .lst ds => some ds
  | .scr is => some (is.map D.int)
  | _ => none
/-- a list that stays -/
@[reducible] def lstF : D → Option (List D)
  | .lst ds => some ds
  | .scr is => some (is.map D.int)
  | _ => none
@[reducible] def setR (o i v : D) (h : Hd) (Q : Hd → Prop) : Prop := match o, i with
  | .ref a, .int k => match h a with
    | some (.lst ds) => match ixN ds.length k with
      | some j => Q (hupd h a (.lst (ds.set j v)))
      | none => False
    | _ => False
  | _, _ => False
@[reducible] def getR : RD2 := fun o i h Q => match o, i with
  | .ref a, .int k => match h a with
    | some (.lst ds) => match atI ds k with
      | some d => Q d h
      | none => False
    | _ => False
  | _, _ => False
@[reducible] def Tgs.len : Tgs → Nat
  | .nil => 0
  | .cons _ r => r.len + 1
/-- a call of the text's own def: f its number, s the shape of the call -/
def callD (G : Prg) (f s : Nat) (ds es : List D) (h : Hd) (Q : QD) (X : QX) : Prop := ds.length = (G.sh f s).n ∧ es.length = (G.sh f s).ks.length ∧ match pickD (G.sh f s).pl ds es with
  | some xs => G.Φ f xs h Q X
  | none => False
mutual
@[reducible] def wpE (G : Prg) : E → TD
  | .non => fun _ h Q _ => Q .non h
  | .bl b => fun _ h Q _ => Q (.bl b) h
  | .int i => fun _ h Q _ => Q (.int i) h
  | .str x => fun _ h Q _ => Q (.str x) h
  | .loc i => fun ρ h Q _ => match lk ρ i with
    | some d => Q d h
    | _ => False
  | .glo k => fun _ h Q _ => Q (G.Γ k) h
  | .op o a b => fun ρ h Q X => wpE G a ρ h (fun x h1 => wpE G b ρ h1 (fun y h2 => opR o x y h2 Q) X) X
  | .neg a => fun ρ h Q X => wpE G a ρ h (fun x h1 => match x with | .int i => Q (.int (-i)) h1 | _ => False) X
  | .cmp c a b => fun ρ h Q X => wpE G a ρ h (fun x h1 => wpE G b ρ h1 (fun y h2 => cmpR c x y h2 Q) X) X
  | .chn c c' a b d => fun ρ h Q X => wpE G a ρ h (fun x h1 => wpE G b ρ h1 (fun y h2 => cmpR c x y h2 (fun r h3 => match r with
      | .bl k => if k = true then wpE G d ρ h3 (fun z h4 => cmpR c' y z h4 Q) X else Q (.bl false) h3
      | _ => False)) X) X
  | .andE a b => fun ρ h Q X => wpE G a ρ h (fun x h1 => truQ x h1 fun k => if k = true then wpE G b ρ h1 Q X else Q x h1) X
  | .orE a b => fun ρ h Q X => wpE G a ρ h (fun x h1 => truQ x h1 fun k => if k = true then Q x h1 else wpE G b ρ h1 Q X) X
  | .notE a => fun ρ h Q X => wpE G a ρ h (fun x h1 => truQ x h1 fun k => Q (.bl (!k)) h1) X
  | .ife c a b => fun ρ h Q X => wpT G c ρ h (fun k h1 => if k = true then wpE G a ρ h1 Q X else wpE G b ρ h1 Q X) X
  | .tup es => fun ρ h Q X => wpA G es ρ h (fun ds h1 => ds.length ≤ sizeLine ∧ Q (.tup ds) h1) X
  | .lst m es => fun ρ h Q X => wpA G es ρ h (fun ds h1 => ds.length ≤ sizeLine ∧ mkL m ds h1 Q) X
  | .ix a i => fun ρ h Q X => wpE G a ρ h (fun x h1 => wpE G i ρ h1 (fun y h2 => ixR x y h2 Q) X) X
  | .slc a l u => fun ρ h Q X => wpE G a ρ h (fun x h1 => wpE G l ρ h1 (fun y h2 => match sizeOpt (isNonE l) y with
      | some lo => wpE G u ρ h2 (fun z h3 => match sizeOpt (isNonE u) z with
        | some hi => slR x lo hi h3 Q
        | none => False) X
      | none => False) X) X
  | .rev a => fun ρ h Q X => wpE G a ρ h (fun x h1 => revR x h1 Q) X
  | .bif b as => fun ρ h Q X => wpA G as ρ h (fun ds h1 => bifR b ds h1 Q) X
  | .isi a t => fun ρ h Q X => wpE G a ρ h (fun x h1 => isiR t x h1 Q) X
  | .call f s as kas => fun ρ h Q X => wpA G as ρ h (fun ds h1 => wpA G kas ρ h1 (fun es h2 => callD G f s ds es h2 Q X) X) X
  | .mth o m as => fun ρ h Q X => wpE G o ρ h (fun x h1 => isTyM m x h1 ∧ wpA G as ρ h1 (fun ds h2 => mthR m x ds h2 Q) X) X
  | .comp m own e t it cs => fun ρ h Q X => wpI G it ρ h (fun ds h1 => ∀ D, h1 D = none →
      loopC (wpG G t) (wpC G cs) (wpE G e) (wipeE ρ own) (fun ys h2 => if m = true then Q (.ref D) (hupd h2 D (.lst ys)) else Q (.lst ys) (hdel h2 D)) ds [] (hupd h1 D .non)) X
  | .frz a => fun ρ h Q X => wpE G a ρ h (fun x h1 => frzR x h1 Q) X
@[reducible] def wpT (G : Prg) : E → TDt
  | .cmp c a b => fun ρ h Q X => wpE G a ρ h (fun x h1 => wpE G b ρ h1 (fun y h2 => cmpR c x y h2 (blQ Q)) X) X
  | .chn c c' a b d => fun ρ h Q X => wpE G a ρ h (fun x h1 => wpE G b ρ h1 (fun y h2 => cmpR c x y h2 (blQ fun k h3 => if k = true then wpE G d ρ h3 (fun z h4 => cmpR c' y z h4 (blQ Q)) X else Q false h3)) X) X
  | .andE a b => fun ρ h Q X => wpT G a ρ h (fun k h1 => if k = true then wpT G b ρ h1 Q X else Q false h1) X
  | .orE a b => fun ρ h Q X => wpT G a ρ h (fun k h1 => if k = true then Q true h1 else wpT G b ρ h1 Q X) X
  | .notE a => fun ρ h Q X => wpT G a ρ h (fun k h1 => Q (!k) h1) X
  | .ife c a b => fun _ _ _ _ => False
  | .non => fun _ h Q _ => Q false h
  | .bl b => fun _ h Q _ => Q b h
  | .int i => fun _ h Q _ => truQ (.int i) h fun k => Q k h
  | .str x => fun _ h Q _ => truQ (.str x) h fun k => Q k h
  | .loc i => fun ρ h Q _ => match lk ρ i with
    | some d => truQ d h fun k => Q k h
    | _ => False
  | .glo k => fun _ h Q _ => truQ (G.Γ k) h fun k => Q k h
  | .op o a b => fun ρ h Q X => wpE G a ρ h (fun x h1 => wpE G b ρ h1 (fun y h2 => opR o x y h2 fun d h3 => truQ d h3 fun k => Q k h3) X) X
  | .neg a => fun _ _ _ _ => False
  | .tup es => fun _ _ _ _ => False
  | .lst m es => fun _ _ _ _ => False
  | .ix a i => fun ρ h Q X => wpE G a ρ h (fun x h1 => wpE G i ρ h1 (fun y h2 => ixR x y h2 fun d h3 => truQ d h3 fun k => Q k h3) X) X
  | .slc a l u => fun _ _ _ _ => False
  | .rev a => fun _ _ _ _ => False
  | .bif b as => fun ρ h Q X => wpA G as ρ h (fun ds h1 => bifR b ds h1 fun d h3 => truQ d h3 fun k => Q k h3) X
  | .isi a t => fun ρ h Q X => wpE G a ρ h (fun x h1 => isiR t x h1 (blQ Q)) X
  | .call f s as kas => fun ρ h Q X => wpA G as ρ h (fun ds h1 => wpA G kas ρ h1 (fun es h2 => callD G f s ds es h2 (fun d h3 => truQ d h3 fun k => Q k h3) X) X) X
  | .mth o m as => fun _ _ _ _ => False
  | .comp m own e t it cs => fun _ _ _ _ => False
  | .frz a => fun _ _ _ _ => False
@[reducible] def wpA (G : Prg) : Es → TDs
  | .nil => fun _ h Q _ => Q [] h
  | .cons e r => fun ρ h Q X => wpE G e ρ h (fun x h1 => wpA G r ρ h1 (fun xs h2 => Q (x :: xs) h2) X) X
/-- the tests of a comprehension: none or one -/
@[reducible] def wpC (G : Prg) : Es → TDt
  | .nil => fun _ h Q _ => Q true h
  | .cons e _ => fun ρ h Q X => wpT G e ρ h Q X
@[reducible] def wpG (G : Prg) : Tg → D → DEnv → Hd → (DEnv → Hd → Prop) → QX → Prop
  | .nm i => fun d ρ h Q _ => stK ρ i d fun ρ1 => Q ρ1 h
  | .tp ts => fun d ρ h Q X => match d with
    | .tup ds => ds.length = ts.len ∧ wpGs G ts ds ρ h Q X
    | _ => False
  | .sb a i => fun d ρ h Q X => wpE G a ρ h (fun o h1 => wpE G i ρ h1 (fun k h2 => setR o k d h2 (fun h3 => Q ρ h3)) X) X
@[reducible] def wpGs (G : Prg) : Tgs → List D → DEnv → Hd → (DEnv → Hd → Prop) → QX → Prop
  | .nil => fun ds ρ h Q _ => match ds with
    | [] => Q ρ h
    | _ => False
  | .cons t r => fun ds ρ h Q X => match ds with
    | d :: ds => wpG G t d ρ h (fun ρ1 h1 => wpGs G r ds ρ1 h1 Q X) X
    | [] => False
@[reducible] def wpI (G : Prg) : It → TDs
  | .seq a => fun ρ h Q X => wpE G a ρ h (fun x h1 => match seqF x with
    | some ds => Q ds h1
    | none => False) X
  | .rg1 a => fun ρ h Q X => wpE G a ρ h (fun x h1 => asInt x fun j => inRange j ∧ Q (rangeD 0 j.toNat 1) h1) X
  | .rg2 a b => fun ρ h Q X => wpE G a ρ h (fun x h1 => wpE G b ρ h1 (fun y h2 => asInt x fun i => asInt y fun j => inRange i ∧ inRange j ∧ Q (rangeD i (j - i).toNat 1) h2) X) X
  | .rg3 a b c => fun ρ h Q X => wpE G a ρ h (fun x h1 => wpE G b ρ h1 (fun y h2 => wpE G c ρ h2 (fun z h3 => asInt x fun i => asInt y fun j => asInt z fun k => ∃ n, RgC i j k n ∧ Q (rangeD i n k) h3) X) X) X
  | .enm a => fun ρ h Q X => wpE G a ρ h (fun x h1 => match lstF x with
    | some ds => Q (enumD ds) h1
    | none => False) X
  | .zip a b => fun ρ h Q X => wpE G a ρ h (fun x h1 => wpE G b ρ h1 (fun y h2 => match seqF x, seqF y with
    | some ds, some es => Q (zipD ds es) h2
    | _, _ => False) X) X
end
/-- what is wanted behind a statement -/
structure EndsD where
  nx : DEnv → Hd → Prop
  rt : QD
  bk : DEnv → Hd → Prop := fun _ _ => False
  ct : DEnv → Hd → Prop := fun _ _ => False
abbrev TDS := DEnv → Hd → EndsD → QX → Prop
def loopF (t : D → DEnv → Hd → (DEnv → Hd → Prop) → QX → Prop) (b : TDS) (N : EndsD) (X : QX) : List D → DEnv → Hd → Prop
  | [], ρ, h => N.nx ρ h
  | d :: ds, ρ, h => t d ρ h (fun ρ1 h1 => b ρ1 h1 { nx := loopF t b N X ds, rt := N.rt, bk := N.nx, ct := loopF t b N X ds } X) X
def loopW (c : DEnv → Hd → (Bool → Hd → Prop) → QX → Prop) (b : TDS) (ρ : DEnv) (h : Hd) (N : EndsD) (X : QX) : Prop :=
  ∃ W : Nat → DEnv → Hd → Prop, (∃ m, W m ρ h) ∧ ∀ m ρ h, W m ρ h → c ρ h (fun k h1 => if k = true then
    b ρ h1 { nx := fun ρ' h' => ∃ m', m' < m ∧ W m' ρ' h', rt := N.rt, bk := N.nx, ct := fun ρ' h' => ∃ m', m' < m ∧ W m' ρ' h' } X else N.nx ρ h1) X
@[reducible] def setMK (ρ : DEnv) : List Nat → List D → (DEnv → Prop) → Prop
  | [], ds, k => match ds with
    | [] => k ρ
    | _ => False
  | i :: is, ds, k => match ds with
    | d :: ds => stK ρ i d fun ρ1 => setMK ρ1 is ds k
    | [] => False
/-- op= : a list that may be changed grows in its place; else as the operation -/
@[reducible] def lstV (h : Hd) : D → Option (List D)
  | .lst ds => some ds
  | .ref a => match h a with
    | some (.lst ds) => some ds
    | _ => none
  | _ => none
@[reducible] def iopR : Op2 → RD2
  | .add => fun x y h Q => match x, y with
    | .int i, .int j => Q (.int (i + j)) h
    | .str i, .str j => i.length + j.length ≤ sizeLine ∧ Q (.str (i ++ j)) h
    | .ref a, y => match h a with
      | some (.lst ds) => match lstV h y with
        | some es => ds.length + es.length ≤ sizeLine ∧ Q (.ref a) (hupd h a (.lst (ds ++ es)))
        | none => False
      | _ => False
    | _, _ => False
  | .sub => subR
  | .mul => fun x y h Q => match x, y with
    | .int i, .int j => CMul i j ∧ Q (.int (i * j)) h
    | _, _ => False
  | _ => fun _ _ _ _ => False
mutual
@[reducible] def wpS (G : Prg) : S → TDS
  | .asg t e => fun ρ h N X => wpE G e ρ h (fun d h1 => wpG G t d ρ h1 N.nx X) X
  | .par is es => fun ρ h N X => wpA G es ρ h (fun ds h1 => setMK ρ is ds fun ρ1 => N.nx ρ1 h1) X
  | .aug i o e => fun ρ h N X => match lk ρ i with
    | some x => wpE G e ρ h (fun y h1 => iopR o x y h1 fun d h2 => stK ρ i d fun ρ1 => N.nx ρ1 h2) X
    | _ => False
  | .augS a i o e => fun ρ h N X => wpE G a ρ h (fun x h1 => wpE G i ρ h1 (fun k h2 => getR x k h2 (fun y h3 => wpE G e ρ h3 (fun z h4 => iopR o y z h4 fun d h5 => setR x k d h5 fun h6 => N.nx ρ h6) X)) X) X
  | .ifS c a b => fun ρ h N X => wpT G c ρ h (fun k h1 => if k = true then wpSs G a ρ h1 N X else wpSs G b ρ h1 N X) X
  | .whl c b => fun ρ h N X => loopW (wpT G c) (wpSs G b) ρ h N X
  | .forS t it b => fun ρ h N X => wpI G it ρ h (fun ds h1 => loopF (wpG G t) (wpSs G b) N X ds ρ h1) X
  | .ret e => fun ρ h N X => wpE G e ρ h N.rt X
  | .retN => fun _ h N _ => N.rt .non h
  | .expr e => fun ρ h N X => wpE G e ρ h (fun _ h1 => N.nx ρ h1) X
  | .pass => fun ρ h N _ => N.nx ρ h
  | .brk => fun ρ h N _ => N.bk ρ h
  | .cnt => fun ρ h N _ => N.ct ρ h
  | .never => fun _ _ _ _ => False
  | .frz i => fun ρ h N _ => match lk ρ i with
    | some d => frzR d h fun d h1 => stK ρ i d fun ρ1 => N.nx ρ1 h1
    | _ => False
@[reducible] def wpSs (G : Prg) : Ss → TDS
  | .nil => fun ρ h N _ => N.nx ρ h
  | .cons s r => fun ρ h N X => wpS G s ρ h { N with nx := fun ρ1 h1 => wpSs G r ρ1 h1 N X } X
end
end Y
namespace Y
open PySem PySem.Spec PyProof.Rows L2

/-! ### views of the text -/
def vBin : Expr → Option (Expr × Operator × Expr)
  | .BinOp a o b _ => some (a, o, b)
  | _ => none
theorem vBin_eq {e : Expr} {a : Expr} {o : Operator} {b : Expr} (h : vBin e = some (a, o, b)) : ∃ p, e = .BinOp a o b p := by
  cases e <;> first | (cases h; done) | (cases h; exact ⟨_, rfl⟩)
def vUn : Expr → Option (UnaryOp × Expr)
  | .UnaryOp o a _ => some (o, a)
  | _ => none
theorem vUn_eq {e : Expr} {a : Expr} {o : UnaryOp} (h : vUn e = some (o, a)) : ∃ p, e = .UnaryOp o a p := by
  cases e <;> first | (cases h; done) | (cases h; exact ⟨_, rfl⟩)
def vCmp : Expr → Option (Expr × CmpOp × Expr)
  | .Compare a [o] [b] _ => some (a, o, b)
  | _ => none
theorem vCmp_eq {e : Expr} {a : Expr} {o : CmpOp} {b : Expr} (h : vCmp e = some (a, o, b)) : ∃ p, e = .Compare a [o] [b] p := by
  unfold vCmp at h
  split at h <;> cases h
  exact ⟨_, rfl⟩
def vChn : Expr → Option (Expr × CmpOp × Expr × CmpOp × Expr)
  | .Compare a [o, o'] [b, c] _ => some (a, o, b, o', c)
  | _ => none
theorem vChn_eq {e : Expr} {a : Expr} {o : CmpOp} {b : Expr} {o' : CmpOp} {c : Expr} (h : vChn e = some (a, o, b, o', c)) : ∃ p, e = .Compare a [o, o'] [b, c] p := by
  unfold vChn at h
  split at h <;> cases h
  exact ⟨_, rfl⟩
def vIf : Expr → Option (Expr × Expr × Expr)
  | .IfExp c a b _ => some (c, a, b)
  | _ => none
theorem vIf_eq {e : Expr} {a : Expr} {b c : Expr} (h : vIf e = some (c, a, b)) : ∃ p, e = .IfExp c a b p := by
  cases e <;> first | (cases h; done) | (cases h; exact ⟨_, rfl⟩)
def vTup : Expr → Option (List Expr)
  | .Tuple es _ _ => some es
  | _ => none
theorem vTup_eq {e : Expr} {es : List Expr} (h : vTup e = some es) : ∃ k p, e = .Tuple es k p := by
  cases e <;> first | (cases h; done) | (cases h; exact ⟨_, _, rfl⟩)
def vLst : Expr → Option (List Expr)
  | .List es _ => some es
  | _ => none
theorem vLst_eq {e : Expr} {es : List Expr} (h : vLst e = some es) : ∃ p, e = .List es p := by
  cases e <;> first | (cases h; done) | (cases h; exact ⟨_, rfl⟩)
def vName : Expr → Option Str
  | .Name x _ => some x
  | _ => none
theorem vName_eq {e : Expr} {x : Str} (h : vName e = some x) : ∃ p, e = .Name x p := by
  cases e <;> first | (cases h; done) | (cases h; exact ⟨_, rfl⟩)
def vConst : Expr → Option Const
  | .Constant c _ _ => some c
  | _ => none
theorem vConst_eq {e : Expr} {x : Const} (h : vConst e = some x) : ∃ k p, e = .Constant x k p := by
  cases e <;> first | (cases h; done) | (cases h; exact ⟨_, _, rfl⟩)
def vBool : Expr → Option (BoolOp × Expr × Expr × List Expr × Pos)
  | .BoolOp o (a :: b :: r) p => some (o, a, b, r, p)
  | _ => none
theorem vBool_eq {e : Expr} {o : BoolOp} {a b : Expr} {r : List Expr} {p : Pos} (h : vBool e = some (o, a, b, r, p)) : e = .BoolOp o (a :: b :: r) p := by
  unfold vBool at h
  split at h <;> cases h
  rfl
/-- a plain subscript -/
def isSlice : Expr → Bool
  | .Slice _ _ _ _ => true
  | _ => false
def vSub : Expr → Option (Expr × Expr)
  | .Subscript a i _ => some (a, i)
  | _ => none
theorem vSub_eq {e : Expr} {a i : Expr} (h : vSub e = some (a, i)) : ∃ p, e = .Subscript a i p := by
  cases e <;> first | (cases h; done) | (cases h; exact ⟨_, rfl⟩)
def vSlice : Expr → Option (Expr × Option Expr × Option Expr)
  | .Subscript a (.Slice l u none _) _ => some (a, l, u)
  | _ => none
theorem vSlice_eq {e : Expr} {a : Expr} {l u : Option Expr} (h : vSlice e = some (a, l, u)) : ∃ p p2, e = .Subscript a (.Slice l u none p2) p := by
  unfold vSlice at h
  split at h <;> cases h
  exact ⟨_, _, rfl⟩
def vRev : Expr → Option Expr
  | .Subscript a (.Slice none none (some (.UnaryOp .USub (.Constant (.int 1) _ _) _)) _) _ => some a
  | _ => none
theorem vRev_eq {e : Expr} {a : Expr} (h : vRev e = some a) : ∃ p p1 p2 p3 k, e = .Subscript a (.Slice none none (some (.UnaryOp .USub (.Constant (.int 1) k p1) p2)) p3) p := by
  unfold vRev at h
  split at h <;> cases h
  exact ⟨_, _, _, _, _, rfl⟩
/-- a call of a name: name, arguments, keywords -/
def vCall : Expr → Option (Str × List Expr × List Keyword)
  | .Call (.Name x _) as ks _ => some (x, as, ks)
  | _ => none
theorem vCall_eq {e : Expr} {x : Str} {as : List Expr} {ks : List Keyword} (h : vCall e = some (x, as, ks)) : ∃ p q, e = .Call (.Name x p) as ks q := by
  unfold vCall at h
  split at h <;> cases h
  exact ⟨_, _, rfl⟩
def vMeth : Expr → Option (Expr × Str × List Expr × List Keyword)
  | .Call (.Attribute o m _) as ks _ => some (o, m, as, ks)
  | _ => none
theorem vMeth_eq {e : Expr} {o : Expr} {m : Str} {as : List Expr} {ks : List Keyword} (h : vMeth e = some (o, m, as, ks)) : ∃ p q, e = .Call (.Attribute o m p) as ks q := by
  unfold vMeth at h
  split at h <;> cases h
  exact ⟨_, _, rfl⟩
def vComp : Expr → Option (Expr × Expr × Expr × List Expr × Scope)
  | .ListComp e [⟨t, i, cs, 0⟩] sc _ => some (e, t, i, cs, sc)
  | _ => none
theorem vComp_eq {e : Expr} {x t i : Expr} {cs : List Expr} {sc : Scope} (h : vComp e = some (x, t, i, cs, sc)) : ∃ p, e = .ListComp x [⟨t, i, cs, 0⟩] sc p := by
  unfold vComp at h
  split at h <;> cases h
  exact ⟨_, rfl⟩
/-- no star among the arguments -/
def noStar : List Expr → Bool
  | [] => true
  | .Starred _ _ :: _ => false
  | _ :: r => noStar r
theorem noStar_cons {e : Expr} {r : List Expr} (h : noStar (e :: r) = true) : noStar r = true ∧ ∀ env, starEach (e :: r) env = (false, eval e env) :: starEach r env := by
  cases e <;> first | exact ⟨h, fun _ => rfl⟩ | cases h
theorem noStar_any {env : PySem.Env} {pos : Pos} : ∀ {es : List Expr}, noStar es = true → (backTo pos (starEach es env)).any (·.1) = false
  | [], _ => rfl
  | e :: r, h => by
    obtain ⟨h1, h2⟩ := noStar_cons h
    rw [h2]
    show (false || (backTo pos (starEach r env)).any (·.1)) = false
    rw [noStar_any h1]; rfl
/-- the kinds of expression whose test is their value's truth -/
def plainT : Expr → Bool
  | .UnaryOp .Not _ _ => false
  | .BoolOp _ _ _ => false
  | .IfExp _ _ _ _ => false
  | .Compare _ _ _ _ => false
  | _ => true
theorem plainT_eq {e : Expr} {env : PySem.Env} (h : plainT e = true) : ∀ whole, PySem.isTrue e env whole = (do let v ← whole; standAt e.pos; holding [v] (truthy v)) := by
  intro whole
  cases e with
  | UnaryOp o a p => cases o <;> first | rfl | (cases h; done)
  | BoolOp => cases h
  | IfExp => cases h
  | Compare => cases h
  | _ => rfl
/-- what stands as a plain index -/
theorem plainIx_of {b : Expr} (h : isSlice b = false) : PlainIx b := by
  intro o i
  cases b <;> first | rfl | (cases h; done)
/-- the store of two or three plain names side by side: which names, if so; none: the model has no word -/
def swpC (sc : Scope) (ts vs : List Expr) : Option (Option (List Str)) :=
    if (!(ts.length == 2 || ts.length == 3) || vs.length != ts.length) = true then some none
    else if (vs.any fun | .Starred .. => true | _ => false) = true then some none
    else if ((ts.filterMap fun
        | .Name id pos => if (sc.names.lookup id == some .local && pos.line == (ts.head?.map (·.pos.line)).getD 0) = true then some id else none
        | _ => none).length != ts.length || (ts.filterMap fun
        | .Name id pos => if (sc.names.lookup id == some .local && pos.line == (ts.head?.map (·.pos.line)).getD 0) = true then some id else none
        | _ => none).eraseDups.length != (ts.filterMap fun
        | .Name id pos => if (sc.names.lookup id == some .local && pos.line == (ts.head?.map (·.pos.line)).getD 0) = true then some id else none
        | _ => none).length) = true then some none
      else if vs.all (foldedForSure 8) = true then some none
      else if vs.all (constantsAlone 8) = true then none
      else some (some (ts.filterMap fun
        | .Name id pos => if (sc.names.lookup id == some .local && pos.line == (ts.head?.map (·.pos.line)).getD 0) = true then some id else none
        | _ => none))
def isTupE : Expr → Bool
  | .Tuple _ _ _ => true
  | .List _ _ => true
  | _ => false
def swp (sc : Scope) (t : Expr) (value : Expr) : Option (Option (List Str)) :=
  match isTupE t with
  | false => some none
  | true => match t with
    | .Tuple ts _ _ => (match value with
      | .Tuple vs _ _ => swpC sc ts vs
      | _ => some none)
    | _ => none
theorem swpC_ok {sc : Scope} {ts vs : List Expr} {k k2 : Nat} {p p2 : Pos} {r : Option (List Str)} {env : PySem.Env} (hs : env.scope = sc) (hk : sc.kind = .function) (h : swpC sc ts vs = some r) : swappedStores [.Tuple ts k p] (.Tuple vs k2 p2) env = pure r := by
  have hb : env.blockKind = .function := by unfold PySem.Env.blockKind; rw [hs, hk]; rfl
  subst hs
  unfold swpC at h
  unfold swappedStores
  dsimp only
  rw [hb]
  split at h
  · rename_i c1
    cases h
    rw [if_pos (by rw [c1]; rfl)]
  · rename_i c1
    rw [if_neg (by simpa using c1)]
    split at h
    · rename_i c2
      cases h
      refine Eq.trans (if_pos c2) rfl
    · rename_i c2
      refine Eq.trans (if_neg c2) ?_
      split at h
      · rename_i c3
        cases h
        refine Eq.trans (if_pos c3) rfl
      · rename_i c3
        refine Eq.trans (if_neg c3) ?_
        split at h
        · rename_i c4
          cases h
          exact Eq.trans (if_pos c4) rfl
        · rename_i c4
          refine Eq.trans (if_neg c4) ?_
          split at h
          · cases h
          · rename_i c5
            cases h
            exact Eq.trans (if_neg c5) rfl
theorem swp_ok {sc : Scope} {t : Expr} {v : Expr} {r : Option (List Str)} {env : PySem.Env} (hs : env.scope = sc) (hk : sc.kind = .function) (h : swp sc t v = some r) : swappedStores [t] v env = pure r := by
  cases t with
  | Tuple ts k p =>
    cases v with
    | Tuple vs k2 p2 => exact swpC_ok hs hk h
    | _ => cases h; rfl
  | List => cases h
  | _ => cases h; rfl
/-- whether the value's list is stored ahead of the block's end -/
def swc (sc : Scope) (value : Expr) (target : Expr) : Bool :=
  match value with
  | .ListComp _ _ s p => (match target with
    | .Name t pos => sc.names.lookup t == some .local && pos.line == p.line && !(s.names.any fun (n, k) => n == t && (k == .local || k == .cell))
    | _ => false)
  | _ => false
def okVal : Expr → Bool
  | .SetComp _ _ _ _ => false
  | .DictComp _ _ _ _ _ => false
  | _ => true
theorem swc_ok {sc : Scope} {v t : Expr} {l : Nat} {env : PySem.Env} (hs : env.scope = sc) (hk : sc.kind = .function) (hv : okVal v = true) : swapsWith v (some t) l env = pure (swc sc v t) := by
  have hb : env.blockKind = .function := by unfold PySem.Env.blockKind; rw [hs, hk]; rfl
  cases v <;> first | rfl | (cases hv; done) | skip
  cases t <;> first | rfl | skip
  unfold swapsWith swc
  dsimp only
  rw [hb]
  unfold PySem.Env.kindOf
  rw [hs]
  rfl
end Y
namespace Y
open PySem PySem.Spec PyProof.Rows L2

/-! ### the promise as a hand-layer promise -/
def toSp (K : PySem.W.Frag) (n : Nat) (S : Spec) : Sp := fun vs H Q E => ∃ ds h Qd Ed, vs.length = n ∧ Reps K H h ds vs ∧ HRel K H h ∧ S ds h Qd Ed ∧ Cl K h H Qd Q ∧ ClX K h H Ed E
/-- how a call of this shape binds -/
def KSh (K : PySem.W.Frag) (fd : FuncData) (ps : List Str) (sh : Shape) : Prop := ∀ (s : Shared) (us ws : List Value) (vs es : List V), K.In s.heap → us.length = sh.n → ws.length = sh.ks.length → Vals vs us → Vals es ws →
  ∃ zv zs, pickV sh.pl vs es = some zv ∧ Vals zv zs ∧ zs.length = ps.length ∧ BindsTo s fd ⟨us, sh.ks.zip ws⟩ (ps.zip zs)
theorem Src.rep {K : PySem.W.Frag} {H : Hp} {h : Hd} {ds es : List D} {vs ws : List V} (r : Reps K H h ds vs) (q : Reps K H h es ws) : ∀ {c : Src} {d : D}, c.d ds es = some d → ∃ v, c.v vs ws = some v ∧ Rep K H h d v
  | .p i, d, e => r.get e
  | .k i, d, e => q.get e
  | .cn, _, e => by cases e; exact ⟨_, rfl, .non⟩
  | .cb b, _, e => by cases e; exact ⟨_, rfl, .bl b⟩
  | .ci i, _, e => by cases e; exact ⟨_, rfl, .int i⟩
  | .cs x, _, e => by cases e; exact ⟨_, rfl, .str x⟩
theorem pick_rep {K : PySem.W.Frag} {H : Hp} {h : Hd} {ds es : List D} {vs ws : List V} (r : Reps K H h ds vs) (q : Reps K H h es ws) : ∀ {pl : List Src} {xs : List D}, pickD pl ds es = some xs → ∃ zv, pickV pl vs ws = some zv ∧ Reps K H h xs zv
  | [], xs, e => by
    cases e
    exact ⟨[], rfl, .nil⟩
  | c :: pl, xs, e => by
    unfold pickD at e
    rw [List.mapM_cons] at e
    cases e1 : c.d ds es with
    | none => rw [e1] at e; cases e
    | some d =>
      rw [e1] at e
      cases e2 : pl.mapM (Src.d ds es) with
      | none => rw [e2] at e; cases e
      | some ys =>
        rw [e2] at e
        cases e
        obtain ⟨v, q1, q2⟩ := Src.rep r q e1
        obtain ⟨zv, q3, q4⟩ := pick_rep r q (pl := pl) e2
        refine ⟨v :: zv, ?_, .cons q2 q4⟩
        unfold pickV
        rw [List.mapM_cons, q1]
        have q3 : pl.mapM (Src.v vs ws) = some zv := q3
        rw [q3]; rfl

/-! ### the context of a block of the text -/
structure Ctx where
  N : List Str
  sc : Scope
  fnc : Str → Bool
  fns : List (Nat × FnI)
  cns : List Str
  free : List Str
structure FnGood (X : Cx) (k : Nat) (i : FnI) (S : Spec) : Prop where
  ok : ∃ a fd kf, kf ≤ k ∧ FnOk X.prog X.w X.K X.mg X.base (L2.CX X.prog X.w) kf a fd i.ps (toSp X.K i.ps.length S) ∧ X.mg i.name = some (.ref a) ∧ PySem.W.keepIn X.K (.ref a) = true ∧ ∀ sh ∈ i.shapes, KSh X.K fd i.ps sh
structure COk (C : Ctx) (G : Prg) (k : Nat) (E : XK) (X : Cx) : Prop where
  N : X.N = C.N
  nd : C.N.Nodup
  sc : X.env.scope = C.sc
  kind : C.sc.kind = .function
  fnc : X.fn = C.fnc
  calm : X.calm = true
  room : Room k X.A
  free : ∀ x ∈ C.free, X.mg x = none
  cns : ∀ (i : Nat) x, C.cns[i]? = some x → ∃ u v, X.mg x = some u ∧ RelV v u ∧ ∀ H h, Rep X.K H h (G.Γ i) v
  fns : ∀ f i, C.fns.lookup f = some i → FnGood X k i (G.Φ f) ∧ ∀ (s : Nat) sh, i.shapes[s]? = some sh → G.sh f s = sh
  px : Passes (L2.CX X.prog X.w) X E
  po : PassesOwn (model X.prog X.w) X.A X.env X.xe

/-! ### checks of names -/
def okName (x : Str) : Bool := !(x == ("__debug__" : Str)) && !(x == ("__classdict__" : Str)) && !(x == ("__name__" : Str))
def visB (sc : Scope) (x : Str) : Bool := match sc.names.lookup x with
  | some .local => true
  | some .cell => true
  | some .free => true
  | _ => false
def locB (C : Ctx) (x : Str) : Bool := match C.sc.names.lookup x with
  | some .local => true
  | some .cell => C.fnc x
  | _ => false
def glB (sc : Scope) (x : Str) : Bool := decide (sc.names.lookup x = some .globalImplicit)
def mVar (C : Ctx) (i : Nat) (x : Str) : Bool := decide (C.N[i]? = some x) && (visB C.sc x && okName x)
def mSet (C : Ctx) (i : Nat) (x : Str) : Bool := decide (C.N[i]? = some x) && locB C x
def mGlo (C : Ctx) (k : Nat) (x : Str) : Bool := decide (C.cns[k]? = some x) && (glB C.sc x && okName x)
def mBlt (C : Ctx) (x : Str) : Bool := decide (x ∈ C.free) && (glB C.sc x && okName x)
theorem and2 {a b : Bool} (h : (a && b) = true) : a = true ∧ b = true := Bool.and_eq_true_iff.mp h
section
variable {C : Ctx} {G : Prg} {k : Nat} {E : XK} {X : Cx} {x : Str}
theorem okName.dbg (h : okName x = true) : (x == ("__debug__" : Str)) = false := by
  unfold okName at h
  simp only [Bool.and_eq_true, Bool.not_eq_true'] at h
  exact h.1.1
theorem okName.cd (h : okName x = true) : (x == ("__classdict__" : Str)) = false := by
  unfold okName at h
  simp only [Bool.and_eq_true, Bool.not_eq_true'] at h
  exact h.1.2
theorem okName.nm (h : okName x = true) : x ≠ "__name__" := by
  unfold okName at h
  simp only [Bool.and_eq_true, Bool.not_eq_true'] at h
  exact fun e => by rw [e] at h; exact absurd h.2 (by decide)
theorem vis_of (ok : COk C G k E X) (h : visB C.sc x = true) : Vis X.env.scope x := by
  unfold visB at h
  unfold Vis
  rw [ok.sc]
  split at h
  · rename_i e; exact .inl e
  · rename_i e; exact .inr (.inl e)
  · rename_i e; exact .inr (.inr e)
  · cases h
theorem loc_of (ok : COk C G k E X) (h : locB C x = true) : L2.Loc X.env.scope x ∧ (X.fn x = true ∨ X.env.scope.names.lookup x = some .local) := by
  unfold locB at h
  unfold L2.Loc
  rw [ok.sc, ok.fnc]
  split at h
  · rename_i e; exact ⟨.inl e, .inr e⟩
  · rename_i e; exact ⟨.inr e, .inl h⟩
  · cases h
theorem gl_of (ok : COk C G k E X) (h : glB C.sc x = true) : Gl X x := by
  unfold Gl PySem.Env.kindOf
  rw [ok.sc]
  exact of_decide_eq_true h
end

/-! ### rules by data: names, constants -/
section
variable {C : Ctx} {G : Prg} {k : Nat} {E : XK} {X : Cx} {x : Str} {pos : Pos}
theorem d_const {e : Expr} {v : V} {d : D} (p : PE X e (tC v)) (r : ∀ H h, Rep X.K H h d v) : PE X e (tD X.K E fun _ h Q _ => Q d h) :=
  p.weak fun σ H Q ⟨ρ, h, Qd, Ed, re, hr, t, c, cx⟩ => c.here hr (r H h) t
theorem d_loc (ok : COk C G k E X) {i : Nat} (h : mVar C i x = true) : PE X (.Name x pos) (tD X.K E (wpE G (.loc i))) := by
  obtain ⟨h1, h2⟩ := and2 h
  obtain ⟨h2, h3⟩ := and2 h2
  refine (pe_var (i := i) (by rw [ok.N]; exact of_decide_eq_true h1) (vis_of ok h2) (okName.dbg h3) (okName.cd h3)).weak fun σ H Q ⟨ρ, hh, Qd, Ed, re, hr, t, c, cx⟩ => ?_
  rw [wpE] at t
  split at t
  · rename_i d e
    obtain ⟨v, e1, r1⟩ := re.get i d (lk_get e)
    exact ⟨v, e1, c.here hr r1 t⟩
  · exact t.elim
theorem d_glo (ok : COk C G k E X) {i : Nat} (h : mGlo C i x = true) : PE X (.Name x pos) (tD X.K E (wpE G (.glo i))) := by
  obtain ⟨h1, h2⟩ := and2 h
  obtain ⟨h2, h3⟩ := and2 h2
  obtain ⟨u, v, m, r, rp⟩ := ok.cns i x (of_decide_eq_true h1)
  refine (pe_glob (gl_of ok h2) m r (okName.dbg h3)).weak fun σ H Q ⟨ρ, hh, Qd, Ed, re, hr, t, c, cx⟩ => ?_
  rw [wpE] at t
  exact c.here hr (rp H hh) t
end

/-! ### rules by data: operations -/
section
variable {K : PySem.W.Frag} {G : Prg} {E : XK} {X : Cx} {a b d : Expr} {Ta Tb Td : TD} {pos : Pos}
theorem d_op {o : Operator} {r : RD2} (ho : OpR X (binaryOp o) (lift2 X.K r)) (ha : PE X a (tD X.K E Ta)) (hb : PE X b (tD X.K E Tb)) : PE X (.BinOp a o b pos) (tD X.K E (bind2 Ta Tb r)) :=
  (pe_op ho ha hb).weak op_weak
theorem d_cmp {o : CmpOp} {r : RD2} (ho : OpR X (compareOp o) (lift2 X.K r)) (ha : PE X a (tD X.K E Ta)) (hb : PE X b (tD X.K E Tb)) (hm : behindInMarks o b = false) : PE X (.Compare a [o] [b] pos) (tD X.K E (bind2 Ta Tb r)) :=
  (pe_cmpR ho ha hb hm).weak op_weak
/-- a value that must be a yes or no -/
theorem Cl.bl {h : Hd} {H : Hp} {Qb : Bool → Hd → Prop} {Q : Bool → Hp → Prop} (c : Clt K h H Qb Q) : Cl K h H (blQ Qb) (fun x H' => ∃ k, x = .bl k ∧ Q k H') := fun d h1 v H1 f hr r q => by
  cases d with
  | bl b => cases r; exact ⟨b, rfl, c b h1 H1 f hr q⟩
  | _ => exact q.elim
theorem d_cmpT {o : CmpOp} {r : RD2} (ho : OpR X (compareOp o) (lift2 X.K r)) (ha : PE X a (tD X.K E Ta)) (hb : PE X b (tD X.K E Tb)) (hm : behindInMarks o b = false) :
    PT X (.Compare a [o] [b] pos) (tDt X.K E fun ρ h Q Xd => Ta ρ h (fun x h1 => Tb ρ h1 (fun y h2 => r x y h2 (blQ Q)) Xd) Xd) :=
  (pt_cmpR ho ha hb hm).weak fun σ H Q ⟨ρ, h, Qd, Ed, re, hr, t, c, cx⟩ => op_weak σ H _ ⟨ρ, h, blQ Qd, Ed, re, hr, t, Cl.bl c, cx⟩
theorem d_neg (ha : PE X a (tD X.K E Ta)) : PE X (.UnaryOp .USub a pos) (tD X.K E fun ρ h Q Xd => Ta ρ h (fun x h1 => match x with | .int i => Q (.int (-i)) h1 | _ => False) Xd) :=
  (pe_un un_neg ha).weak fun σ H Q ⟨ρ, h, Qd, Ed, re, hr, t, c, cx⟩ => ⟨ρ, h, _, Ed, re, hr, t, fun d1 h1 v1 H1 f1 hr1 r1 q1 => by
    cases d1 with
    | int i => cases r1; exact ⟨i, rfl, (c.frm f1).here hr1 (.int _) q1⟩
    | _ => exact q1.elim, cx⟩
theorem d_chn {o o' : CmpOp} {r r' : RD2} (ho : OpR X (compareOp o) (lift2 X.K r)) (ho' : OpR X (compareOp o') (lift2 X.K r')) (ha : PE X a (tD X.K E Ta)) (hb : PE X b (tD X.K E Tb)) (hd : PE X d (tD X.K E Td)) (hm : lastMarks [o, o'] [b, d] = false) :
    PE X (.Compare a [o, o'] [b, d] pos) (tD X.K E fun ρ h Q Xd => Ta ρ h (fun x h1 => Tb ρ h1 (fun y h2 => r x y h2 (fun z h3 => match z with
      | .bl k => if k = true then Td ρ h3 (fun z h4 => r' y z h4 Q) Xd else Q (.bl false) h3
      | _ => False)) Xd) Xd) :=
  (pe_chain ho ho' ha hb hd hm).weak fun σ H Q ⟨ρ, h, Qd, Ed, re, hr, t, c, cx⟩ => by
    refine ⟨ρ, h, _, Ed, re, hr, t, fun d1 h1 v1 H1 f1 hr1 r1 q1 => ?_, cx⟩
    refine ⟨ρ, h1, _, Ed, re.frm f1, hr1, q1, fun d2 h2 v2 H2 f2 hr2 r2 q2 => ?_, cx.frm f1⟩
    refine ⟨h2, d1, d2, _, hr2, r1.frm f2, r2, q2, fun d3 h3 v3 H3 f3 hr3 r3 q3 => ?_⟩
    cases d3 with
    | bl k =>
      cases r3
      refine ⟨k, rfl, ?_⟩
      have f := f1.trans (f2.trans f3)
      have q3 : if k = true then Td ρ h3 (fun z h4 => r' d2 z h4 Qd) Ed else Qd (.bl false) h3 := q3
      cases k with
      | true =>
        rw [if_pos rfl] at q3 ⊢
        refine ⟨ρ, h3, _, Ed, re.frm f, hr3, q3, fun d4 h4 v4 H4 f4 hr4 r4 q4 => ?_, cx.frm f⟩
        exact ⟨h4, d2, d4, Qd, hr4, (r2.frm f3).frm f4, r4, q4, c.frm (f.trans f4)⟩
      | false =>
        rw [if_neg Bool.false_ne_true] at q3 ⊢
        exact (c.frm f).here hr3 (.bl _) q3
    | _ => exact q3.elim
theorem d_chnT {o o' : CmpOp} {r r' : RD2} (ho : OpR X (compareOp o) (lift2 X.K r)) (ho' : OpR X (compareOp o') (lift2 X.K r')) (ha : PE X a (tD X.K E Ta)) (hb : PE X b (tD X.K E Tb)) (hd : PE X d (tD X.K E Td)) (hm : lastMarks [o, o'] [b, d] = false) :
    PT X (.Compare a [o, o'] [b, d] pos) (tDt X.K E fun ρ h Q Xd => Ta ρ h (fun x h1 => Tb ρ h1 (fun y h2 => r x y h2 (blQ fun k h3 => if k = true then Td ρ h3 (fun z h4 => r' y z h4 (blQ Q)) Xd else Q false h3)) Xd) Xd) :=
  (pt_chain ho ho' ha hb hd hm).weak fun σ H Q ⟨ρ, h, Qd, Ed, re, hr, t, c, cx⟩ => by
    refine ⟨ρ, h, _, Ed, re, hr, t, fun d1 h1 v1 H1 f1 hr1 r1 q1 => ?_, cx⟩
    refine ⟨ρ, h1, _, Ed, re.frm f1, hr1, q1, fun d2 h2 v2 H2 f2 hr2 r2 q2 => ?_, cx.frm f1⟩
    refine ⟨h2, d1, d2, _, hr2, r1.frm f2, r2, q2, fun d3 h3 v3 H3 f3 hr3 r3 q3 => ?_⟩
    cases d3 with
    | bl k =>
      cases r3
      refine ⟨k, rfl, ?_⟩
      have f := f1.trans (f2.trans f3)
      have q3 : if k = true then Td ρ h3 (fun z h4 => r' d2 z h4 (blQ Qd)) Ed else Qd false h3 := q3
      cases k with
      | true =>
        rw [if_pos rfl] at q3 ⊢
        refine ⟨ρ, h3, _, Ed, re.frm f, hr3, q3, fun d4 h4 v4 H4 f4 hr4 r4 q4 => ?_, cx.frm f⟩
        exact ⟨h4, d2, d4, blQ Qd, hr4, (r2.frm f3).frm f4, r4, q4, Cl.bl (Clt.frm c (f.trans f4))⟩
      | false =>
        rw [if_neg Bool.false_ne_true] at q3 ⊢
        exact ⟨false, rfl, Clt.frm c f false h3 H3 Frm.refl hr3 q3⟩
    | _ => exact q3.elim
/-- truth of a value -/
theorem d_truth (ha : PE X a (tD X.K E Ta)) (he : plainT a = true) : PT X a (tDt X.K E fun ρ h Q Xd => Ta ρ h (fun x h1 => truQ x h1 fun k => Q k h1) Xd) :=
  (pt_truth ha (plainT_eq he)).weak fun σ H Q ⟨ρ, h, Qd, Ed, re, hr, t, c, cx⟩ => ⟨ρ, h, _, Ed, re, hr, t, fun d1 h1 v1 H1 f1 hr1 r1 q1 => by
    obtain ⟨k, t1, q2⟩ := tru_ok2 hr1 r1 q1
    exact ⟨k, t1, c k h1 H1 f1 hr1 q2⟩, cx⟩
theorem d_and {rest : List Expr} (ha : PE X a (tD X.K E Ta)) (hb : PE X (.BoolOp .And (b :: rest) pos) (tD X.K E Tb)) : PE X (.BoolOp .And (a :: b :: rest) pos) (tD X.K E fun ρ h Q Xd => Ta ρ h (fun x h1 => truQ x h1 fun k => if k = true then Tb ρ h1 Q Xd else Q x h1) Xd) :=
  (pe_andT ha hb).weak fun σ H Q ⟨ρ, h, Qd, Ed, re, hr, t, c, cx⟩ => ⟨ρ, h, _, Ed, re, hr, t, fun d1 h1 v1 H1 f1 hr1 r1 q1 => by
    obtain ⟨k, t1, q2⟩ := tru_ok2 hr1 r1 q1
    refine ⟨k, t1, ?_⟩
    cases k with
    | true => rw [if_pos rfl] at q2 ⊢; exact ⟨ρ, h1, Qd, Ed, re.frm f1, hr1, q2, c.frm f1, cx.frm f1⟩
    | false => rw [if_neg Bool.false_ne_true] at q2 ⊢; exact (c.frm f1).here hr1 r1 q2, cx⟩
theorem d_or {rest : List Expr} (ha : PE X a (tD X.K E Ta)) (hb : PE X (.BoolOp .Or (b :: rest) pos) (tD X.K E Tb)) : PE X (.BoolOp .Or (a :: b :: rest) pos) (tD X.K E fun ρ h Q Xd => Ta ρ h (fun x h1 => truQ x h1 fun k => if k = true then Q x h1 else Tb ρ h1 Q Xd) Xd) :=
  (pe_orT ha hb).weak fun σ H Q ⟨ρ, h, Qd, Ed, re, hr, t, c, cx⟩ => ⟨ρ, h, _, Ed, re, hr, t, fun d1 h1 v1 H1 f1 hr1 r1 q1 => by
    obtain ⟨k, t1, q2⟩ := tru_ok2 hr1 r1 q1
    refine ⟨k, t1, ?_⟩
    cases k with
    | false => rw [if_neg Bool.false_ne_true] at q2 ⊢; exact ⟨ρ, h1, Qd, Ed, re.frm f1, hr1, q2, c.frm f1, cx.frm f1⟩
    | true => rw [if_pos rfl] at q2 ⊢; exact (c.frm f1).here hr1 r1 q2, cx⟩
theorem d_not (ha : PE X a (tD X.K E Ta)) : PE X (.UnaryOp .Not a pos) (tD X.K E fun ρ h Q Xd => Ta ρ h (fun x h1 => truQ x h1 fun k => Q (.bl (!k)) h1) Xd) :=
  (pe_notT ha).weak fun σ H Q ⟨ρ, h, Qd, Ed, re, hr, t, c, cx⟩ => ⟨ρ, h, _, Ed, re, hr, t, fun d1 h1 v1 H1 f1 hr1 r1 q1 => by
    obtain ⟨k, t1, q2⟩ := tru_ok2 hr1 r1 q1
    exact ⟨k, t1, (c.frm f1).here hr1 (.bl _) q2⟩, cx⟩
variable {Ca Cb : TDt}
theorem d_andW {rest : List Expr} (ha : PT X a (tDt X.K E Ca)) (hb : PW X (.BoolOp .And (b :: rest) pos) (tDt X.K E Cb)) : PW X (.BoolOp .And (a :: b :: rest) pos) (tDt X.K E fun ρ h Q Xd => Ca ρ h (fun k h1 => if k = true then Cb ρ h1 Q Xd else Q false h1) Xd) :=
  (pw_and ha hb).weak fun σ H Q ⟨ρ, h, Qd, Ed, re, hr, t, c, cx⟩ => ⟨ρ, h, _, Ed, re, hr, t, fun k h1 H1 f1 hr1 q1 => by
    cases k with
    | true => rw [if_pos rfl] at q1 ⊢; exact ⟨ρ, h1, Qd, Ed, re.frm f1, hr1, q1, Clt.frm c f1, cx.frm f1⟩
    | false => rw [if_neg Bool.false_ne_true] at q1 ⊢; exact c _ _ _ f1 hr1 q1, cx⟩
theorem d_orW {rest : List Expr} (ha : PT X a (tDt X.K E Ca)) (hb : PW X (.BoolOp .Or (b :: rest) pos) (tDt X.K E Cb)) : PW X (.BoolOp .Or (a :: b :: rest) pos) (tDt X.K E fun ρ h Q Xd => Ca ρ h (fun k h1 => if k = true then Q true h1 else Cb ρ h1 Q Xd) Xd) :=
  (pw_or ha hb).weak fun σ H Q ⟨ρ, h, Qd, Ed, re, hr, t, c, cx⟩ => ⟨ρ, h, _, Ed, re, hr, t, fun k h1 H1 f1 hr1 q1 => by
    cases k with
    | false => rw [if_neg Bool.false_ne_true] at q1 ⊢; exact ⟨ρ, h1, Qd, Ed, re.frm f1, hr1, q1, c.frm f1, cx.frm f1⟩
    | true => rw [if_pos rfl] at q1 ⊢; exact c _ _ _ f1 hr1 q1, cx⟩
theorem d_notT (ha : PT X a (tDt X.K E Ca)) : PT X (.UnaryOp .Not a pos) (tDt X.K E fun ρ h Q Xd => Ca ρ h (fun k h1 => Q (!k) h1) Xd) :=
  (pt_not ha).weak fun σ H Q ⟨ρ, h, Qd, Ed, re, hr, t, c, cx⟩ => ⟨ρ, h, _, Ed, re, hr, t, fun k h1 H1 f1 hr1 q1 => c _ _ _ f1 hr1 q1, cx⟩
theorem d_ife (hc : PT X d (tDt X.K E Ca)) (ha : PE X a (tD X.K E Ta)) (hb : PE X b (tD X.K E Tb)) : PE X (.IfExp d a b pos) (tD X.K E fun ρ h Q Xd => Ca ρ h (fun k h1 => if k = true then Ta ρ h1 Q Xd else Tb ρ h1 Q Xd) Xd) :=
  (pe_ifExp hc ha hb).weak fun σ H Q ⟨ρ, h, Qd, Ed, re, hr, t, c, cx⟩ => ⟨ρ, h, _, Ed, re, hr, t, fun k h1 H1 f1 hr1 q1 => by
    cases k with
    | true => rw [if_pos rfl] at q1 ⊢; exact ⟨ρ, h1, Qd, Ed, re.frm f1, hr1, q1, c.frm f1, cx.frm f1⟩
    | false => rw [if_neg Bool.false_ne_true] at q1 ⊢; exact ⟨ρ, h1, Qd, Ed, re.frm f1, hr1, q1, c.frm f1, cx.frm f1⟩, cx⟩
variable {es : List Expr} {Ts : TDs}
theorem da_nil : PA X [] (tDs X.K E fun _ h Q _ => Q [] h) := pa_nil.weak fun σ H Q ⟨ρ, h, Qd, Ed, re, hr, t, c, cx⟩ => c [] h [] H Frm.refl hr .nil t
theorem da_cons (ha : PE X a (tD X.K E Ta)) (hr : PA X es (tDs X.K E Ts)) (hs : noStar (a :: es) = true) : PA X (a :: es) (tDs X.K E fun ρ h Q Xd => Ta ρ h (fun x h1 => Ts ρ h1 (fun xs h2 => Q (x :: xs) h2) Xd) Xd) :=
  (pa_cons ha hr ((noStar_cons hs).2 _)).weak fun σ H Q ⟨ρ, h, Qd, Ed, re, hr, t, c, cx⟩ => by
    refine ⟨ρ, h, _, Ed, re, hr, t, fun d1 h1 v1 H1 f1 hr1 r1 q1 => ?_, cx⟩
    refine ⟨ρ, h1, _, Ed, re.frm f1, hr1, q1, fun d2 h2 v2 H2 f2 hr2 r2 q2 => ?_, cx.frm f1⟩
    exact c _ _ _ _ (f1.trans f2) hr2 (.cons (r1.frm f2) r2) q2
theorem d_tup {kk : Nat} (h : PA X es (tDs X.K E Ts)) : PE X (.Tuple es kk pos) (tD X.K E fun ρ h Q Xd => Ts ρ h (fun ds h1 => ds.length ≤ sizeLine ∧ Q (.tup ds) h1) Xd) :=
  (pe_tup h).weak fun σ H Q ⟨ρ, h, Qd, Ed, re, hr, t, c, cx⟩ => ⟨ρ, h, _, Ed, re, hr, t, fun d1 h1 v1 H1 f1 hr1 r1 q1 => ⟨by rw [← r1.length]; exact q1.1, fun p n => (c.frm f1).fresh hr1 n (Rep.newT hr1 r1 n) q1.2⟩, cx⟩
theorem mkL_ok {m : Bool} {ds : List D} {vs : List V} {h : Hd} {H : Hp} {Qd : QD} {Q : VK} {p : Addr} (hr : HRel K H h) (r : Reps K H h ds vs) (q : mkL m ds h Qd) (c : Cl K h H Qd Q) (n : H p = none) : Q (.ref p) (upd H p (.lst vs)) := by
  unfold mkL at q
  cases m with
  | true =>
    rw [if_pos rfl] at q
    have at_ : At K (upd H p (.lst vs)) (hupd h p (.lst ds)) p (.lst ds) := ⟨_, upd_same, r.frm (Frm.new n (hr.gone n))⟩
    exact c _ _ _ _ (Frm.new n (hr.gone n)) (hr.new n at_) (.ref p) (q p (hr.gone n))
  | false =>
    rw [if_neg Bool.false_ne_true] at q
    exact c.fresh hr n (Rep.newL hr r n) q
theorem d_lst {m : Bool} (h : PA X es (tDs X.K E Ts)) : PE X (.List es pos) (tD X.K E fun ρ h Q Xd => Ts ρ h (fun ds h1 => ds.length ≤ sizeLine ∧ mkL m ds h1 Q) Xd) :=
  (pe_lst h).weak fun σ H Q ⟨ρ, h, Qd, Ed, re, hr, t, c, cx⟩ => ⟨ρ, h, _, Ed, re, hr, t, fun d1 h1 v1 H1 f1 hr1 r1 q1 => ⟨by rw [← r1.length]; exact q1.1, fun p n => mkL_ok hr1 r1 q1.2 (c.frm f1) n⟩, cx⟩
theorem d_ix (ha : PE X a (tD X.K E Ta)) (hb : PE X b (tD X.K E Tb)) (hs : isSlice b = false) : PE X (.Subscript a b pos) (tD X.K E (bind2 Ta Tb ixR)) :=
  (pe_ix do_ix ha hb (plainIx_of hs)).weak op_weak
end
end Y
namespace Y
open PySem PySem.Spec PyProof.Rows L2

/-! ### slices -/
section
variable {E : XK} {X : Cx} {a b d : Expr} {Ta Tb Td : TD} {pos p2 : Pos}
def tDo (K : PySem.W.Frag) (E : XK) (T : DEnv → Hd → (Option Int → Hd → Prop) → QX → Prop) : TO := fun σ H Q => ∃ ρ h Qd Ed, RelE K H h ρ σ ∧ HRel K H h ∧ T ρ h Qd Ed ∧ (∀ o h1 H1, Frm h H h1 H1 → HRel K H1 h1 → Qd o h1 → Q o H1) ∧ ClX K h H Ed E
theorem _root_.L2.PO.weak {X : Cx} {e : Option Expr} {t t' : TO} (p : PO X e t) (w : ∀ σ H Q, t' σ H Q → t σ H Q) : PO X e t' := ⟨fun pins s σ H Q I h => p.run pins s σ H Q I (w _ _ _ h)⟩
theorem do_noPart : PO X none (tDo X.K E fun _ h Q _ => Q none h) := po_none.weak fun σ H Q ⟨ρ, h, Qd, Ed, re, hr, t, c, cx⟩ => c none h H Frm.refl hr t
theorem do_part (ha : PE X a (tD X.K E Ta)) : PO X (some a) (tDo X.K E fun ρ h Q Xd => Ta ρ h (fun d h1 => match d with | .int i => Q (some i) h1 | _ => False) Xd) :=
  (po_some ha).weak fun σ H Q ⟨ρ, h, Qd, Ed, re, hr, t, c, cx⟩ => ⟨ρ, h, _, Ed, re, hr, t, fun d1 h1 v1 H1 f1 hr1 r1 q1 => by
    cases d1 with
    | int i => cases r1; exact ⟨i, rfl, c _ _ _ f1 hr1 q1⟩
    | _ => exact q1.elim, cx⟩
theorem d_slc {lo hi : Option Expr} {Tl Tu : DEnv → Hd → (Option Int → Hd → Prop) → QX → Prop} (ha : PE X a (tD X.K E Ta)) (hl : PO X lo (tDo X.K E Tl)) (hu : PO X hi (tDo X.K E Tu)) :
    PE X (.Subscript a (.Slice lo hi none p2) pos) (tD X.K E fun ρ h Q Xd => Ta ρ h (fun x h1 => Tl ρ h1 (fun l h2 => Tu ρ h2 (fun u h3 => slR x l u h3 Q) Xd) Xd) Xd) :=
  (pe_slice do_sl ha hl hu).weak fun σ H Q ⟨ρ, h, Qd, Ed, re, hr, t, c, cx⟩ => by
    refine ⟨ρ, h, _, Ed, re, hr, t, fun d1 h1 v1 H1 f1 hr1 r1 q1 => ?_, cx⟩
    refine ⟨ρ, h1, _, Ed, re.frm f1, hr1, q1, fun l h2 H2 f2 hr2 q2 => ?_, cx.frm f1⟩
    refine ⟨ρ, h2, _, Ed, re.frm (f1.trans f2), hr2, q2, fun u h3 H3 f3 hr3 q3 => ?_, cx.frm (f1.trans f2)⟩
    exact ⟨h3, d1, Qd, hr3, (r1.frm f2).frm f3, q3, c.frm (f1.trans (f2.trans f3))⟩
end
/-- all items backwards -/
theorem adjust_back (n : Nat) : Builtin.Slice.sliceAdjust none none (-1) (n : Int) = ((n : Int) - 1, -1) := rfl
theorem places_back (n : Nat) : Builtin.Slice.slicePlaces ((n : Int) - 1) (-1) (-1) = n := by
  unfold Builtin.Slice.slicePlaces
  rw [if_neg (by decide)]
  split
  · have e : ((n : Int) - 1 - -1 - 1) / (- -1) + 1 = (n : Int) := by
      have : (- -1 : Int) = 1 := rfl
      rw [this, Int.ediv_one]; omega
    rw [e]; rfl
  · omega
theorem fm_congr {α β : Type} {f g : α → Option β} : ∀ {l : List α}, (∀ x ∈ l, f x = g x) → l.filterMap f = l.filterMap g
  | [], _ => rfl
  | a :: l, h => by
    have e := fm_congr (l := l) fun x hx => h x (List.mem_cons_of_mem _ hx)
    rw [List.filterMap_cons, List.filterMap_cons, h a List.mem_cons_self, e]
theorem back_list {α : Type} : ∀ l : List α, ((List.range l.length).filterMap fun (m : Nat) => l[l.length - 1 - m]?) = l.reverse
  | [] => rfl
  | a :: l => by
    rw [List.reverse_cons, ← back_list l, List.length_cons, List.range_succ, List.filterMap_append]
    congr 1
    · refine fm_congr fun m hm => ?_
      have hm := List.mem_range.mp hm
      have e : l.length + 1 - 1 - m = (l.length - 1 - m) + 1 := by omega
      rw [e, List.getElem?_cons_succ]
    · simp
theorem pick_back (xs : Array Value) : ((List.range xs.size).filterMap fun (m : Nat) => xs[(((xs.size : Int) - 1) + (m : Int) * (-1)).toNat]?).toArray = xs.toList.reverse.toArray := by
  rw [← back_list xs.toList]
  congr 1
  rw [Array.length_toList]
  refine fm_congr fun m hm => ?_
  have hm := List.mem_range.mp hm
  have e : (((xs.size : Int) - 1) + (m : Int) * (-1)).toNat = xs.size - 1 - m := by omega
  rw [e, Array.getElem?_toList]
/-- a tuple's items backwards: a new tuple -/
theorem item_back {prog : Program} {w : World} {A : Around} {E : Value → Shared → Prop} {s : Shared} {t sl : Addr} {items : Array Value} {vl vu vs : Value} {Q : Value → Shared → Prop} (ht : IsTup s.heap t items) (hs : s.heap.IsSliceOf sl vl vu vs) (pl : IsPart vl none) (pu : IsPart vu none) (ps : IsPart vs (some (-1)))
    (hz : items.size ≤ sizeLine) (h : Q (.ref s.heap.objs.size) { s with heap := s.heap.push { cls := .type "tuple", data := .seq items.toList.reverse.toArray } }) : wpAny (model prog w) A (getItem (.ref t) (.ref sl)) Q E s := by
  obtain ⟨os, hos, hcs, hds⟩ := id hs
  have hT : s.TypeIs (.ref sl) "slice" := ⟨os, hos, hcs⟩
  have fit : sizeOk (.seq items.toList.reverse.toArray) := by
    show items.toList.reverse.toArray.size ≤ sizeLine
    simpa using hz
  unfold getItem
  try with_reducible refine wpAny_holding ?_
  first | refine wpAny_bind (wpAny_pure ?_) | skip
  refine wpAny_bind (wpAny_sequenceKey ht.typeIs (by decide) ?_)
  refine wpAny_bind (wpAny_callSpecial?_slot (name := Str.ofString "__getitem__") ht.typeIs PyProof.Rows.slot_tuple_getitem (wpAny_call_entry PyProof.Rows.slot_tuple_getitem ht.typeIs PySem.F.entry_tuple_getitem ?_ (PySem.F.args_tuple_getitem_2 _ _)))
  show wpAny _ _ (Builtin.Tuple.tupleItemsOf (.ref t) >>= _) _ _ s
  refine wpAny_bind (tupleItemsOf_ ht ?_)
  refine wpAny_bind (wpAny_typeOf hT ?_)
  rw [if_pos (by decide)]
  refine wpAny_bind ?_
  unfold Builtin.Slice.sliceApplied Builtin.Slice.sliceFields
  refine wpAny_bind (wpAny_bind (wpAny_field hos hds (x := vl) rfl (wpAny_bind (wpAny_field hos hds (x := vu) rfl (wpAny_bind (wpAny_field hos hds (x := vs) rfl (wpAny_pure ?_)))))))
  refine wpAny_bind (HT.slicePart_ ps ?_)
  show wpAny _ _ (if ((-1 : Int) == 0) = true then _ else _) _ _ s
  rw [if_neg (by decide)]
  refine wpAny_bind (HT.slicePart_ pl (wpAny_bind (HT.slicePart_ pu (wpAny_bind (wpAny_pure ?_)))))
  show wpAny _ _ (match Builtin.Slice.sliceAdjust none none (-1) (items.size : Int) with | (lo, hi) => pure (lo, (-1 : Int), Builtin.Slice.slicePlaces lo hi (-1))) _ _ s
  rw [adjust_back]
  show wpAny _ _ (pure ((items.size : Int) - 1, (-1 : Int), Builtin.Slice.slicePlaces ((items.size : Int) - 1) (-1) (-1))) _ _ s
  rw [places_back]
  refine wpAny_pure ?_
  show wpAny _ _ (if (((items.size : Int) - 1) == 0 && (-1 : Int) == 1 && items.size == items.size) = true then _ else _) _ _ s
  rw [if_neg (by rw [show ((-1 : Int) == 1) = false from rfl]; simp), pick_back]
  first
    | exact wpAny_bind (m := Builtin.Tuple.tupleExact _) (wpAny_newObj_type (wpAny_pure ⟨_, rfl, wpAny_pure h⟩) fit)
    | exact wpAny_bind (m := Builtin.Tuple.tupleExact _) (wpAny_newObj_type (wpAny_bind (wpAny_pure (wpAny_pure ⟨_, rfl, wpAny_pure h⟩))) fit)
    | exact wpAny_bind (wpAny_bind (m := Builtin.Tuple.tupleExact _) (wpAny_newObj_type (wpAny_pure (wpAny_pure ⟨_, rfl, wpAny_pure h⟩)) fit))
    | exact wpAny_bind (wpAny_bind (m := Builtin.Tuple.tupleExact _) (wpAny_newObj_type (wpAny_pure ⟨_, rfl, wpAny_pure h⟩) fit))
section
variable {E : XK} {X : Cx} {a : Expr} {Ta : TD} {pos : Pos}
theorem d_rev {k : Nat} {p1 p2 p3 : Pos} (ha : PE X a (tD X.K E Ta)) : PE X (.Subscript a (.Slice none none (some (.UnaryOp .USub (.Constant (.int 1) k p1) p2)) p3) pos) (tD X.K E (bind1 Ta revR)) := by
  refine ⟨fun pins s σ H Q I hx => ?_⟩
  obtain ⟨ρ, h, Qd, Ed, re, hr, t, c, cx⟩ := hx
  have hv : tD X.K E Ta σ H fun v H1 => ∃ h1 d1, HRel X.K H1 h1 ∧ Rep X.K H1 h1 d1 v ∧ revR d1 h1 Qd ∧ Cl X.K h1 H1 Qd Q := ⟨ρ, h, _, Ed, re, hr, t, fun d1 h1 v1 H1 f1 hr1 r1 q1 => ⟨h1, d1, hr1, r1, q1, c.frm f1⟩, cx⟩
  refine Subscript_ (thn (ha.run pins s σ H _ I hv) fun v s1 ⟨x, H1, I1, r1, q1⟩ => ?_)
  obtain ⟨h1, d1, hr1, rd, q, c1⟩ := q1
  have hst : PO X (some (.UnaryOp .USub (.Constant (.int 1) k p1) p2)) (tPart (tUn (rU fun i => .int (-i)) (tC (.int 1)))) := po_some (pe_un un_neg pe_int)
  refine wpAny_Slice (thn (po_none.run pins s1 σ H1 (fun o H2 => o = none ∧ H2 = H1) I1 ⟨rfl, rfl⟩) fun vl s2 ⟨l, H2, I2, pl, el, e2⟩ => ?_)
  subst el e2
  refine thn (po_none.run pins s2 σ H2 (fun o H3 => o = none ∧ H3 = H2) I2 ⟨rfl, rfl⟩) fun vu s3 ⟨u, H3, I3, pu, eu, e3⟩ => ?_
  subst eu e3
  refine thn (hst.run pins s3 σ H3 (fun o H4 => o = some (-1) ∧ H4 = H3) I3 ⟨1, rfl, -1, rfl, rfl, rfl⟩) fun vs s4 ⟨o, H4, I4, ps, eo, e4⟩ => ?_
  subst eo e4
  have I5 : Inv X pins σ H4 { s4 with heap := s4.heap.push { cls := .type "slice", data := .fields #[vl, vu, vs] } } := I4.kept (t' := s4.toks) fun b ob q => Heap.get?_push_of_some _ q
  have nw : H4 (s4.heap.objs.size + 1) = none := I4.hok.fresh (Nat.le_succ _)
  have sz5 : (s4.heap.push { cls := .type "slice", data := .fields #[vl, vu, vs] }).objs.size = s4.heap.objs.size + 1 := Heap.size_push _ _
  have lists : ∀ ds, seqL h1 d1 = some ds → Qd (.lst ds.reverse) h1 → wpAny (model X.prog X.w) X.A (subscriptTail a (.Slice none none (some (.UnaryOp .USub (.Constant (.int 1) k p1) p2)) p3) v (.ref s4.heap.objs.size)) (EP X pins σ Q) X.xe { s4 with heap := s4.heap.push { cls := .type "slice", data := .fields #[vl, vu, vs] } } := fun ds e q => by
    obtain ⟨b, us, rfl, hb, rb⟩ := seqL_ok hr1 rd e
    cases r1
    obtain ⟨its, rv, ht, hz⟩ := I5.list (.inl (.inl hb))
    have hlen := rv.length
    refine tail_any (ops := [.ref b, .ref s4.heap.objs.size]) ht.isList.typeIs (PySem.slot_list_getitem.lookup) ?_ (by with_unfolding_all rfl)
    refine wpAny_getItem_list_slice ht.isList (Heap.IsSliceOf.new _ vl vu vs) pl pu ps (by decide) ?_ (by rw [List.size_toArray]; omega)
    rw [PySem.W.krv_pick]
    have nw2 := I5.hok.fresh (Nat.le_refl _)
    refine ⟨.ref _, _, I5.laid (t' := s4.toks) (o := .lst us.reverse) (fun b ob q => Heap.get?_push_of_some _ q) (Nat.le_refl _) ?_, rfl, c1.fresh hr1 nw2 (Rep.newL hr1 rb.reverse nw2) q⟩
    exact ⟨by rw [List.length_reverse]; exact hz, _, 0, rv.reverse, Heap.get?_push_size _ rfl⟩
  show wpAny (model X.prog X.w) X.A (subscriptTail a (.Slice none none (some (.UnaryOp .USub (.Constant (.int 1) k p1) p2)) p3) v (.ref s4.heap.objs.size)) (EP X pins σ Q) X.xe { s4 with heap := s4.heap.push { cls := .type "slice", data := .fields #[vl, vu, vs] } }
  have other : (match seqL h1 d1 with | some ds => Qd (.lst ds.reverse) h1 | none => False) → wpAny (model X.prog X.w) X.A (subscriptTail a (.Slice none none (some (.UnaryOp .USub (.Constant (.int 1) k p1) p2)) p3) v (.ref s4.heap.objs.size)) (EP X pins σ Q) X.xe { s4 with heap := s4.heap.push { cls := .type "slice", data := .fields #[vl, vu, vs] } } := fun q => by
    cases e : seqL h1 d1 with
    | none => rw [e] at q; exact q.elim
    | some ds => rw [e] at q; exact lists ds e q
  cases d1 with
  | tup ds =>
    obtain ⟨b, us, rfl, hb, rb⟩ := rd.sqT
    cases r1
    obtain ⟨its, rv, ht, hz⟩ := I5.tuple hb
    have hlen := rv.length
    refine tail_any (ops := [.ref b, .ref s4.heap.objs.size]) ht.typeIs (PyProof.Rows.slot_tuple_getitem.lookup) ?_ (by with_unfolding_all rfl)
    refine item_back ht (Heap.IsSliceOf.new _ vl vu vs) pl pu ps (by rw [List.size_toArray]; omega) ?_
    have nw2 := I5.hok.fresh (Nat.le_refl _)
    refine ⟨.ref _, _, I5.laid (t' := s4.toks) (o := .tup us.reverse) (fun b ob q => Heap.get?_push_of_some _ q) (Nat.le_refl _) ?_, rfl, c1.fresh hr1 nw2 (Rep.newT hr1 rb.reverse nw2) q⟩
    exact ⟨by rw [List.length_reverse]; exact hz, its.reverse, rv.reverse, ⟨_, Heap.get?_push_size _ rfl, rfl, 0, rfl⟩⟩
  | _ => exact other q
end
end Y
namespace Y
open PySem PySem.Spec PyProof.Rows L2

/-! ### calls of built-ins, of methods, isinstance -/
section
variable {C : Ctx} {G : Prg} {k : Nat} {E : XK} {X : Cx} {a b o e : Expr} {es : List Expr} {Ta To : TD} {Ts Tk : TDs} {x : Str} {p pos apos : Pos}
theorem d_bif (ok : COk C G k E X) {bf : Bif} (hb : mBlt C bf.nm = true) (ha : PA X (e :: es) (tDs X.K E Ts)) (hs : noStar (e :: es) = true) : PE X (.Call (.Name bf.nm p) (e :: es) [] pos) (tD X.K E (bindS Ts (bifR bf))) := by
  obtain ⟨h1, h2⟩ := and2 hb
  obtain ⟨h2, h3⟩ := and2 h2
  have hm := ok.free _ (of_decide_eq_true h1)
  have hg := gl_of ok h2
  obtain ⟨n1, n2⟩ := noStar_cons hs
  have hc := ok.calm
  have hr := bif_ok hc bf
  have hv := bif_boot bf
  have fin : (∃ id, bf.val = .builtin id) ∨ ∃ T, bf.val = .type T := by cases bf <;> first | exact .inl ⟨_, rfl⟩ | exact .inr ⟨_, rfl⟩
  rcases fin with ⟨id, e1⟩ | ⟨T, e1⟩
  · rw [e1] at hr hv
    exact (pe_callB hr hg hm hv ha (okName.nm h3) (okName.dbg h3) (n2 _) (noStar_any n1)).weak cb_weak
  · rw [e1] at hr hv
    exact (pe_callTy hr hg hm hv ha (okName.nm h3) (okName.dbg h3) (n2 _) (noStar_any n1)).weak cb_weak
def Ty.nm : Ty → Str
  | .int => "int" | .bool => "bool" | .str => "str" | .tuple => "tuple" | .list => "list"
def Ty.ty : Ty → String
  | .int => "int" | .bool => "bool" | .str => "str" | .tuple => "tuple" | .list => "list"
def dTy : D → Option String
  | .non => some "NoneType"
  | .bl _ => some "bool"
  | .int _ => some "int"
  | .str _ => some "str"
  | .tup _ => some "tuple"
  | .lst _ => some "list"
  | _ => none
theorem dTy_ok {H : Hp} {h : Hd} {d : D} {v : V} {n : String} (r : Rep X.K H h d v) (t : dTy d = some n) : TyX X.K H v (.type n) := by
  cases r with
  | non => cases t; exact .base .non
  | bl b => cases t; exact .base (.bl b)
  | int b => cases t; exact .base (.int b)
  | str b => cases t; exact .base (.str b)
  | tup e n r => cases t; exact .base (.tup e)
  | tupK k r =>
    cases t
    obtain ⟨o, its, n, h1, h2, _⟩ := k
    exact .kTuple h1 h2
  | lst e n r => cases t; exact .base (.lst e)
  | _ => cases t
theorem tyIs_kit {t : Ty} {d : D} {bb : Bool} (e : tyIs t d = some bb) : ∃ n, dTy d = some n ∧ kitB n t.ty = some bb := by
  cases d <;> first | (cases e; done) | skip
  all_goals (refine ⟨_, rfl, ?_⟩; cases t <;> (cases e; decide +kernel))
theorem ty_boot (t : Ty) : bootBuiltins t.nm = some (.type t.ty) := by cases t <;> decide +kernel
theorem d_isi (ok : COk C G k E X) {t : Ty} {q1 : Pos} (hb : mBlt C "isinstance" = true) (ht : mBlt C t.nm = true) (ha : PE X a (tD X.K E Ta)) (hs : noStar [a] = true) :
    PE X (.Call (.Name "isinstance" p) [a, .Name t.nm q1] [] pos) (tD X.K E (bind1 Ta (isiR t))) := by
  obtain ⟨h1, h2⟩ := and2 hb
  obtain ⟨h2, h3⟩ := and2 h2
  obtain ⟨g1, g2⟩ := and2 ht
  obtain ⟨g2, g3⟩ := and2 g2
  have hm := ok.free _ (of_decide_eq_true h1)
  have hg := gl_of ok h2
  have hmt := ok.free _ (of_decide_eq_true g1)
  have hgt := gl_of ok g2
  obtain ⟨n1, n2⟩ := noStar_cons hs
  have n3 : starEach [a, .Name t.nm q1] X.env = (false, eval a X.env) :: starEach [.Name t.nm q1] X.env := by
    cases a <;> first | rfl | (cases hs; done)
  have pt : PE X (.Name t.nm q1) (tC (.ty t.ty)) := pe_bltn hgt hmt (ty_boot t) rfl (okName.nm g3) (okName.dbg g3)
  refine (pe_callB call_isi hg hm (by decide +kernel) (pa_cons ha (pa_cons pt pa_nil rfl) n3) (okName.nm h3) (okName.dbg h3) n3 rfl).weak fun σ H Q ⟨ρ, h, Qd, Ed, re, hr, t1, c, cx⟩ => ?_
  refine ⟨ρ, h, _, Ed, re, hr, t1, fun d1 h1 v1 H1 f1 hr1 r1 q1 => ?_, cx⟩
  have q1 : isiR t d1 h1 Qd := q1
  unfold isiR at q1
  split at q1
  · rename_i bb e
    obtain ⟨n, e1, e2⟩ := tyIs_kit e
    exact ⟨v1, .ty t.ty, .type n, .type t.ty, bb, rfl, .ty _, dTy_ok r1 e1, kit_ty e2, (c.frm f1).here hr1 (.bl _) q1⟩
  · exact q1.elim
/-- what stands ahead of a dot -/
def baseOk : Expr → Bool
  | .Call (.Name _ _) [] [] _ => false
  | _ => true
theorem baseOk_eq {o : Expr} {m : Str} {env : PySem.Env} (h : baseOk o = true) : attributeBase o m env (eval o env) = eval o env := by
  unfold attributeBase
  split
  · cases h
  · rfl
def lineOk (ap cp : Pos) : Bool := ap.endLine == cp.line
theorem few_ok {cpos : Pos} {env : PySem.Env} : ∀ {es : List Expr}, noStar es = true → (backTo cpos (starEach es env)).all (fun x => !x.1) = true
  | [], _ => rfl
  | e :: r, h => by
    obtain ⟨h1, h2⟩ := noStar_cons h
    rw [h2]
    show (!false && (backTo cpos (starEach r env)).all (fun x => !x.1)) = true
    rw [few_ok h1]; rfl
theorem d_mth {m : Mth} (ho : PE X o (tD X.K E To)) (ha : PA X (e :: es) (tDs X.K E Ts)) (hs : noStar (e :: es) = true) (hbase : baseOk o = true) (hl : (e :: es).length < 20) (hline : lineOk apos pos = true) :
    PE X (.Call (.Attribute o m.nm apos) (e :: es) [] pos) (tD X.K E fun ρ h Q Xd => To ρ h (fun x h1 => isTyM m x h1 ∧ Ts ρ h1 (fun ds h2 => mthR m x ds h2 Q) Xd) Xd) := by
  obtain ⟨n1, n2⟩ := noStar_cons hs
  refine (pe_bm (mth_pa m) (mth_slot m) (mth_type m) (mth_ok m) ho ha (baseOk_eq hbase) ?_ hline (n2 _) (noStar_any n1)).weak fun σ H Q ⟨ρ, h, Qd, Ed, re, hr, t, c, cx⟩ => ?_
  · rw [few_ok hs]
    show (true && true && decide (_ < 30)) = true
    rw [Bool.true_and, Bool.true_and]
    refine decide_eq_true ?_
    show (e :: es).length + 0 + 0 < 30
    omega
  · refine ⟨ρ, h, _, Ed, re, hr, t, fun d1 h1 v1 H1 f1 hr1 r1 q1 => ?_, cx⟩
    refine ⟨isTyM_ok hr1 r1 q1.1, ρ, h1, _, Ed, re.frm f1, hr1, q1.2, fun d2 h2 v2 H2 f2 hr2 r2 q2 => ?_, cx.frm f1⟩
    exact ⟨h2, d1, d2, Qd, hr2, r1.frm f2, r2, q2, c.frm (f1.trans f2)⟩

/-! ### calls of the text's own defs -/
def kwN : List Keyword → List (Option Str)
  | [] => []
  | ⟨n, _, _⟩ :: r => n :: kwN r
def kwE : List Keyword → List Expr
  | [] => []
  | ⟨_, e, _⟩ :: r => e :: kwE r
theorem kw_all {env : PySem.Env} {pos : Pos} : ∀ {kws : List Keyword} {ks : List Str}, kwN kws = ks.map some → (backToKw pos (keywordEach kws env)).all (·.1.isSome) = true ∧ (backToKw pos (keywordEach kws env)).filterMap (·.1) = ks ∧ (backToKw pos (keywordEach kws env)).any (·.1.isNone) = false
  | [], ks, h => by
    cases ks with
    | nil => exact ⟨rfl, rfl, rfl⟩
    | cons a r => cases h
  | ⟨n, e, q⟩ :: r, ks, h => by
    cases ks with
    | nil => cases h
    | cons a ks =>
      have h : n :: kwN r = some a :: ks.map some := h
      injection h with h1 h2
      subst h1
      obtain ⟨e1, e2, e3⟩ := kw_all (pos := pos) (env := env) h2
      refine ⟨?_, ?_, ?_⟩
      · show (true && (backToKw pos (keywordEach r env)).all (·.1.isSome)) = true
        rw [e1]; rfl
      · show a :: (backToKw pos (keywordEach r env)).filterMap (·.1) = a :: ks
        rw [e2]
      · show (false || (backToKw pos (keywordEach r env)).any (·.1.isNone)) = false
        rw [e3]; rfl
theorem PK.weak {kws : List Keyword} {t t' : TA} (h : PK X kws t) (w : ∀ σ H Q, t' σ H Q → t σ H Q) : PK X kws t' := ⟨fun pos pins s σ H Q I q => h.run pos pins s σ H Q I (w _ _ _ q)⟩
theorem dk_nil : PK X [] (tDs X.K E fun _ h Q _ => Q [] h) := PK.weak pk_nil fun σ H Q ⟨ρ, h, Qd, Ed, re, hr, t, c, cx⟩ => c [] h [] H Frm.refl hr .nil t
theorem dk_cons {nm : Option Str} {kp : Pos} {kws : List Keyword} (ha : PE X a (tD X.K E Ta)) (hr : PK X kws (tDs X.K E Ts)) : PK X (⟨nm, a, kp⟩ :: kws) (tDs X.K E fun ρ h Q Xd => Ta ρ h (fun x h1 => Ts ρ h1 (fun xs h2 => Q (x :: xs) h2) Xd) Xd) :=
  PK.weak (pk_cons ha hr) fun σ H Q ⟨ρ, h, Qd, Ed, re, hr, t, c, cx⟩ => by
    refine ⟨ρ, h, _, Ed, re, hr, t, fun d1 h1 v1 H1 f1 hr1 r1 q1 => ?_, cx⟩
    refine ⟨ρ, h1, _, Ed, re.frm f1, hr1, q1, fun d2 h2 v2 H2 f2 hr2 r2 q2 => ?_, cx.frm f1⟩
    exact c _ _ _ _ (f1.trans f2) hr2 (.cons (r1.frm f2) r2) q2
/-- the call itself, from values -/
theorem run_call (ok : COk C G k E X) {pins : List (Addr × Obj)} {σ : L2.St} {H : Hp} {s : Shared} {Q : VK} {us ws : List Value} {vs zs : List V} {ds es : List D} {h : Hd} {f : Nat} {i : FnI} {sh : Shape} {Qd : QD} {Ed : QX}
    {av : Addr} {fd : FuncData} {kf : Nat} (hk : kf ≤ k) (F : FnOk X.prog X.w X.K X.mg X.base (L2.CX X.prog X.w) kf av fd i.ps (toSp X.K i.ps.length (G.Φ f))) (sb : KSh X.K fd i.ps sh)
    (l1 : us.length = sh.n) (l2 : ws.length = sh.ks.length) (I : Inv X pins σ H s) (r : Vals vs us) (rz : Vals zs ws) (hr : HRel X.K H h) (rd : Reps X.K H h ds vs) (re : Reps X.K H h es zs)
    (q : match pickD sh.pl ds es with | some xs => G.Φ f xs h Qd Ed | none => False) (c : Cl X.K h H Qd Q) (cx : ClX X.K h H Ed E) :
    wpAny (model X.prog X.w) X.A (call (.ref av) us (sh.ks.zip ws)) (EP X pins σ Q) X.xe s := by
  cases e : pickD sh.pl ds es with
  | none => rw [e] at q; exact q.elim
  | some xs =>
    rw [e] at q
    obtain ⟨zv, e1, rp⟩ := pick_rep rd re e
    obtain ⟨zv', zl, e2, rv, ln, hb⟩ := sb s us ws vs zs I.kIn l1 l2 r rz
    rw [e1] at e2; cases e2
    have lv : zv.length = i.ps.length := by rw [← ln]; exact rv.length
    have hsp : toSp X.K i.ps.length (G.Φ f) zv H Q E := ⟨xs, h, Qd, Ed, lv, rp, hr, q, c, cx⟩
    refine wpAny_call (codeAny_mono (F.run X.A X.stack s H ⟨us, sh.ks.zip ws⟩ zl zv Q E (ok.room.mono hk) I.env0 hb rv hsp) fun r s' hq => ?_)
    cases r with
    | error e => exact ok.px pins σ H s e s' I hq
    | ok fl =>
      cases fl with
      | ret u => exact I.after hq
      | next => exact False.elim hq
      | brk => exact False.elim hq
      | cont => exact False.elim hq
theorem kw_len : ∀ {kws : List Keyword} {ks : List Str}, kwN kws = ks.map some → kws.length = ks.length
  | [], [], _ => rfl
  | [], _ :: _, h => by cases h
  | ⟨_, _, _⟩ :: _, [], h => by cases h
  | ⟨n, e, q⟩ :: r, b :: ks, h => by
    have h : n :: kwN r = some b :: ks.map some := h
    injection h with h1 h2
    exact congrArg (· + 1) (kw_len h2)
def callT (G : Prg) (f si : Nat) (Ts Tk : TDs) : TD := fun ρ h Q Xd => Ts ρ h (fun ds h1 => Tk ρ h1 (fun zs h2 => ds.length = (G.sh f si).n ∧ zs.length = (G.sh f si).ks.length ∧ match pickD (G.sh f si).pl ds zs with
      | some xs => G.Φ f xs h2 Q Xd
      | none => False) Xd) Xd
/-- the keywords' part and the call, from the arguments' values on -/
theorem call_rest (ok : COk C G k E X) {f si : Nat} {i : FnI} {sh : Shape} {kws : List Keyword} (eG : G.sh f si = sh) {av : Addr} {fd : FuncData} {kf : Nat} (hkf : kf ≤ k) (F : FnOk X.prog X.w X.K X.mg X.base (L2.CX X.prog X.w) kf av fd i.ps (toSp X.K i.ps.length (G.Φ f))) (sb : KSh X.K fd i.ps sh)
    (hk : kwN kws = sh.ks.map some) (hkw : PK X kws (tDs X.K E Tk))
    {pins : List (Addr × Obj)} {σ : L2.St} {H H1 : Hp} {h h1 : Hd} {s1 : Shared} {Q : VK} {Qd : QD} {Ed : QX} {ρ : DEnv} {us : List Value} {vs : List V} {ds : List D} (re : RelE X.K H h ρ σ) (c : Cl X.K h H Qd Q) (cx : ClX X.K h H Ed E)
    (I1 : Inv X pins σ H1 s1) (r1 : Vals vs us) (f1 : Frm h H h1 H1) (hr1 : HRel X.K H1 h1) (rd : Reps X.K H1 h1 ds vs)
    (q1 : Tk ρ h1 (fun zs h2 => ds.length = (G.sh f si).n ∧ zs.length = (G.sh f si).ks.length ∧ match pickD (G.sh f si).pl ds zs with
        | some xs => G.Φ f xs h2 Qd Ed
        | none => False) Ed) :
    wpAny (model X.prog X.w) X.A (evalAll ((backToKw pos (keywordEach kws X.env)).map (·.2))) (fun ks s₂ => X.K.In s₂.heap ∧ wpAny (model X.prog X.w) X.A (call (.ref av) ([] ++ us) (((backToKw pos (keywordEach kws X.env)).filterMap (·.1)).zip ks)) (EP X pins σ Q) X.xe s₂) X.xe s1 := by
  obtain ⟨k1, k2, k3⟩ := kw_all (pos := pos) (env := X.env) hk
  refine thn (hkw.run pos pins s1 σ H1 (fun zs H2 => ∃ h2 es2, Frm h1 H1 h2 H2 ∧ HRel X.K H2 h2 ∧ Reps X.K H2 h2 es2 zs ∧ ds.length = (G.sh f si).n ∧ es2.length = (G.sh f si).ks.length ∧ match pickD (G.sh f si).pl ds es2 with
      | some xs => G.Φ f xs h2 Qd Ed
      | none => False) I1 ⟨ρ, h1, _, Ed, re.frm f1, hr1, q1, fun d2 h2 v2 H2 f2 hr2 r2 q2 => ⟨h2, d2, f2, hr2, r2, q2⟩, cx.frm f1⟩) fun ws s2 ⟨zs, H2, I2, rz, h2, es2, f2, hr2, r2, ld, l2, q2⟩ => ⟨I2.kIn, ?_⟩
  rw [k2, List.nil_append]
  rw [eG] at q2 ld l2
  refine run_call ok hkf F sb ?_ ?_ I2 r1 rz hr2 (rd.frm f2) r2 q2 (c.frm (f1.trans f2)) (cx.frm (f1.trans f2))
  · rw [← r1.length, ← rd.length, ld]
  · rw [← rz.length, ← r2.length, l2]
theorem d_call (ok : COk C G k E X) {f si : Nat} {i : FnI} {sh : Shape} {kws : List Keyword} (hf : C.fns.lookup f = some i) (hsh : i.shapes[si]? = some sh) (hx : i.name = x) (hg : glB C.sc x = true) (hn : okName x = true)
    (hk : kwN kws = sh.ks.map some) (ha : PA X (e :: es) (tDs X.K E Ts)) (hkw : PK X kws (tDs X.K E Tk)) (hs : noStar (e :: es) = true) :
    PE X (.Call (.Name x p) (e :: es) kws pos) (tD X.K E (callT G f si Ts Tk)) := by
  subst hx
  obtain ⟨⟨av, fd, kf, hkf, F, hm, hkp, hsb⟩, hG⟩ := (ok.fns f i hf).imp FnGood.ok id
  have eG := hG si sh hsh
  have sb := hsb sh (List.mem_of_getElem? hsh)
  obtain ⟨k1, k2, k3⟩ := kw_all (pos := pos) (env := X.env) hk
  obtain ⟨n1, n2⟩ := noStar_cons hs
  refine ⟨fun pins s σ H Q I hx => ?_⟩
  obtain ⟨ρ, h, Qd, Ed, re, hr, t, c, cx⟩ := hx
  refine wpAny_Call_Name_kw (ld_glob I (gl_of ok hg) hm ?_ (okName.dbg hn))
  refine PySem.W.callWith_KW (h₀ := X.base) I.ok.mod.kin hkp k1 ?_ (by rw [noStar_any hs, k3]; rfl) (n2 _)
  refine thn (ha.run pos pins s σ H (fun vs H1 => ∃ h1 ds, Frm h H h1 H1 ∧ HRel X.K H1 h1 ∧ Reps X.K H1 h1 ds vs ∧ Tk ρ h1 (fun zs h2 => ds.length = (G.sh f si).n ∧ zs.length = (G.sh f si).ks.length ∧ match pickD (G.sh f si).pl ds zs with
        | some xs => G.Φ f xs h2 Qd Ed
        | none => False) Ed) I ⟨ρ, h, _, Ed, re, hr, t, fun d1 h1 v1 H1 f1 hr1 r1 q1 => ⟨h1, d1, f1, hr1, r1, q1⟩, cx⟩) fun us s1 ⟨vs, H1, I1, r1, h1, ds, f1, hr1, rd, q1⟩ => ?_
  exact call_rest ok eG hkf F sb hk hkw re c cx I1 r1 f1 hr1 rd q1
theorem d_call0 (ok : COk C G k E X) {f si : Nat} {i : FnI} {sh : Shape} {kws : List Keyword} (hf : C.fns.lookup f = some i) (hsh : i.shapes[si]? = some sh) (hx : i.name = x) (hg : glB C.sc x = true) (hn : okName x = true)
    (hk : kwN kws = sh.ks.map some) (hkw : PK X kws (tDs X.K E Tk)) :
    PE X (.Call (.Name x p) [] kws pos) (tD X.K E (callT G f si (fun _ h Q _ => Q [] h) Tk)) := by
  subst hx
  obtain ⟨⟨av, fd, kf, hkf, F, hm, hkp, hsb⟩, hG⟩ := (ok.fns f i hf).imp FnGood.ok id
  have eG := hG si sh hsh
  have sb := hsb sh (List.mem_of_getElem? hsh)
  obtain ⟨k1, k2, k3⟩ := kw_all (pos := pos) (env := X.env) hk
  refine ⟨fun pins s σ H Q I hx => ?_⟩
  obtain ⟨ρ, h, Qd, Ed, re, hr, t, c, cx⟩ := hx
  refine wpAny_Call_Name_kw (ld_glob I (gl_of ok hg) hm ?_ (okName.dbg hn))
  refine PySem.W.callWith_KW0 (h₀ := X.base) I.ok.mod.kin hkp k1 ?_ (by show ((false : Bool) || _) = false; rw [k3]; rfl)
  exact call_rest ok eG hkf F sb hk hkw re c cx I .nil Frm.refl hr .nil t
end
end Y
namespace Y
open PySem PySem.Spec PyProof.Rows L2

/-! ### what is walked -/
def Wk (K : PySem.W.Frag) (J : L2.It) (h0 : Hd) (H0 : Hp) (ds : List D) : Prop := ∀ h H, Frm h0 H0 h H → HRel K H h → ∀ i,
  (∀ d, ds[i]? = some d → J.go i H ∧ ∀ x H', J.yld i H x H' → Frm h H h H' ∧ HRel K H' h ∧ Rep K H' h d x) ∧ (i = ds.length → J.stop i H)
def iD (K : PySem.W.Frag) (E : XK) (W : TDs) : TI := fun σ H R => ∃ ρ h Qd Ed, RelE K H h ρ σ ∧ HRel K H h ∧ W ρ h Qd Ed ∧
  (∀ ds h1 H1 J, Frm h H h1 H1 → HRel K H1 h1 → Wk K J h1 H1 ds → Qd ds h1 → R J H1) ∧ ClX K h H Ed E
theorem PI.weak {X : Cx} {tg it : Expr} {w w' : TI} (p : PI X tg it w) (h : ∀ σ H R, w' σ H R → w σ H R) : PI X tg it w' := ⟨fun pins s σ H R I q => p.run pins s σ H R I (h _ _ _ q)⟩
section
variable {K : PySem.W.Frag} {h : Hd} {H : Hp} {ds es : List D} {vs us : List V} {a b : Addr}
theorem atT (e : SqT K H a vs) (n : h a = none) (f : Frm h H h2 H2) : SqT K H2 a vs := by
  rcases e with (e | ⟨o, e⟩) | e
  · exact .inl (.inl (f.keep _ _ e n).1)
  · exact .inl (.inr ⟨o, (f.keep _ _ e n).1⟩)
  · exact .inr e
/-- a list that stays, a tuple -/
def StL (K : PySem.W.Frag) (h : Hd) (H : Hp) (a : Addr) (vs : List V) : Prop := ∀ h2 H2, Frm h H h2 H2 → SqL K H2 a vs ∧ ∀ xs, SqL K H2 a xs → xs = vs
def StT (K : PySem.W.Frag) (h : Hd) (H : Hp) (a : Addr) (vs : List V) : Prop := ∀ h2 H2, Frm h H h2 H2 → SqT K H2 a vs
end
section
variable {X : Cx} {pins : List (Addr × Obj)} {σ : L2.St} {s : Shared} {h : Hd} {H : Hp} {ds es : List D} {vs us : List V} {a b : Addr}
/-- data that stay: what stands there -/
theorem seqF_ok {d : D} {v : V} {ds : List D} (r : Rep X.K H h d v) (e : seqF d = some ds) : ∃ a vs, v = .ref a ∧ Reps X.K H h ds vs ∧ ((∀ h2 H2, Frm h H h2 H2 → SqL X.K H2 a vs) ∨ ∀ h2 H2, Frm h H h2 H2 → SqT X.K H2 a vs) := by
  cases r with
  | tup e1 n r =>
    cases e
    exact ⟨_, _, rfl, r, .inr fun h2 H2 f => .inl (.inl (f.keep _ _ e1 n).1)⟩
  | tupK k r =>
    cases e
    exact ⟨_, _, rfl, r, .inr fun h2 H2 f => .inr k⟩
  | lst e1 n r =>
    cases e
    exact ⟨_, _, rfl, r, .inl fun h2 H2 f => .inl (.inl (f.keep _ _ e1 n).1)⟩
  | scr e1 =>
    cases e
    exact ⟨_, _, rfl, Reps.ints _, .inl fun h2 H2 f => (e1.frm f).sqL⟩
  | _ => cases e
/-- a walk over a list: what the items are at each turn is read off the list as it stands -/
theorem wk_list (hr : HRel X.K H h) (r : Reps X.K H h ds vs) (st : ∀ h2 H2, Frm h H h2 H2 → SqL X.K H2 a vs) : Wk X.K (Itl X.K a) h H ds := fun h2 H2 f hr2 i => by
  refine ⟨fun d e => ?_, fun hl => ⟨vs, st h2 H2 f, by rw [← r.length]; exact Nat.le_of_eq hl.symm⟩⟩
  obtain ⟨v, e1, r1⟩ := r.get e
  refine ⟨⟨vs, v, st h2 H2 f, e1⟩, fun x H' ⟨e2, hx⟩ => ?_⟩
  subst e2
  have q := hx vs (st h2 _ f)
  rw [e1] at q; cases q
  exact ⟨Frm.refl, hr2, r1.frm f⟩
theorem wk_tup (hr : HRel X.K H h) (r : Reps X.K H h ds vs) (st : ∀ h2 H2, Frm h H h2 H2 → SqT X.K H2 a vs) : Wk X.K (Itt X.K a) h H ds := fun h2 H2 f hr2 i => by
  refine ⟨fun d e => ?_, fun hl => ⟨vs, st h2 H2 f, by rw [← r.length]; exact Nat.le_of_eq hl.symm⟩⟩
  obtain ⟨v, e1, r1⟩ := r.get e
  refine ⟨⟨vs, v, st h2 H2 f, e1⟩, fun x H' ⟨e2, hx⟩ => ?_⟩
  subst e2
  have q := hx vs (st h2 _ f)
  rw [e1] at q; cases q
  exact ⟨Frm.refl, hr2, r1.frm f⟩
end
section
variable {E : XK} {X : Cx} {a b d : Expr} {tg : Expr} {Ta Tb : TD} {Ts : TDs} {pos p : Pos}
theorem di_seq (ha : PE X a (tD X.K E Ta)) : PI X tg a (iD X.K E fun ρ h Q Xd => Ta ρ h (fun x h1 => match seqF x with
    | some ds => Q ds h1
    | none => False) Xd) := by
  refine ⟨fun pins s σ H R I hx => ?_⟩
  obtain ⟨ρ, h, Qd, Ed, re, hr, t, c, cx⟩ := hx
  refine thn (ha.run pins s σ H (fun v H1 => ∃ h1 d1, Frm h H h1 H1 ∧ HRel X.K H1 h1 ∧ Rep X.K H1 h1 d1 v ∧ match seqF d1 with
    | some ds => Qd ds h1
    | none => False) I ⟨ρ, h, _, Ed, re, hr, t, fun d1 h1 v1 H1 f1 hr1 r1 q1 => ⟨h1, d1, f1, hr1, r1, q1⟩, cx⟩) fun v s1 ⟨x, H1, I1, rv, h1, d1, f1, hr1, rd, q1⟩ => ?_
  cases e : seqF d1 with
  | none => rw [e] at q1; exact q1.elim
  | some ds =>
    rw [e] at q1
    obtain ⟨a, vs, rfl, rs, st⟩ := seqF_ok rd e
    cases rv
    have I2 := fun (ob : Obj) => I1.kept (t' := s1.toks) (h' := s1.heap.push ob) fun b o e => Heap.get?_push_of_some _ e
    have fp : ∀ b ∈ [s1.heap.objs.size], FpOk X pins H1 b := fun b hb => by
      have e : b = s1.heap.objs.size := by simpa using hb
      subst e
      exact I1.fpOk (Nat.le_refl _) (I1.hok.fresh (Nat.le_refl _))
    rcases st with st | st
    · obtain ⟨its, ri, pl, hz⟩ := I1.list (st h1 H1 Frm.refl)
      refine wpAny_pyIter_list pl.isList ?_
      exact ⟨s1.heap.objs.size, [s1.heap.objs.size], _, _, H1, rfl, I2 _, turn_list a _, ⟨_, Heap.get?_push_size _ rfl, rfl, rfl⟩, fp, c ds h1 H1 _ f1 hr1 (wk_list hr1 rs st) q1⟩
    · obtain ⟨its, ri, pl, hz⟩ := I1.tuple (st h1 H1 Frm.refl)
      refine wpAny_pyIter_tuple (show s1.heap.IsTuple a its.toArray from pl) ?_
      exact ⟨s1.heap.objs.size, [s1.heap.objs.size], _, _, H1, rfl, I2 _, turn_tuple a _, ⟨_, Heap.get?_push_size _ rfl, rfl, rfl⟩, fp, c ds h1 H1 _ f1 hr1 (wk_tup hr1 rs st) q1⟩
theorem range_get {lo c : Int} {n i : Nat} {d : D} (e : (rangeD lo n c)[i]? = some d) : i < n ∧ d = .int (lo + (i : Int) * c) := by
  unfold rangeD at e
  rw [List.getElem?_map] at e
  by_cases hi : i < n
  · rw [List.getElem?_range hi] at e
    cases e
    exact ⟨hi, rfl⟩
  · rw [List.getElem?_eq_none (by simp; omega)] at e
    cases e
theorem range_len {lo c : Int} {n : Nat} : (rangeD lo n c).length = n := by unfold rangeD; simp
theorem wk_range {K : PySem.W.Frag} {h : Hd} {H : Hp} {lo : Int} {n : Nat} : Wk K (Itr lo n) h H (rangeD lo n 1) := fun h2 H2 f hr2 i => by
  refine ⟨fun d e => ?_, fun hl => by rw [range_len] at hl; exact Nat.le_of_eq hl.symm⟩
  obtain ⟨h1, rfl⟩ := range_get e
  refine ⟨h1, fun x H' ⟨e1, e2⟩ => ?_⟩
  subst e1 e2
  rw [Int.mul_one]
  exact ⟨Frm.refl, hr2, .int _⟩
theorem wk_rangeC {K : PySem.W.Frag} {h : Hd} {H : Hp} {lo c : Int} {n : Nat} : Wk K (Itc lo c n) h H (rangeD lo n c) := fun h2 H2 f hr2 i => by
  refine ⟨fun d e => ?_, fun hl => by rw [range_len] at hl; exact Nat.le_of_eq hl.symm⟩
  obtain ⟨h1, rfl⟩ := range_get e
  refine ⟨h1, fun x H' ⟨e1, e2⟩ => ?_⟩
  subst e1 e2
  exact ⟨Frm.refl, hr2, .int _⟩
def noStar1 (a : Expr) : Bool := noStar [a]
theorem star_cons {a : Expr} {es : List Expr} {env : PySem.Env} (h : noStar (a :: es) = true) : starEach (a :: es) env = (false, eval a env) :: starEach es env := (noStar_cons h).2 env
variable {C : Ctx} {G : Prg} {k : Nat}
theorem in1 {α : Type} (P : α → Hd → Prop) : (fun x h1 => ∃ x', [x] = [x'] ∧ P x' h1) = P := by
  funext x h1
  exact propext ⟨fun ⟨_, e, q⟩ => by cases e; exact q, fun q => ⟨_, rfl, q⟩⟩
theorem in2 {α : Type} (P : α → α → Hd → Prop) (x : α) : (fun y h1 => ∃ x' y', [x, y] = [x', y'] ∧ P x' y' h1) = P x := by
  funext y h1
  exact propext ⟨fun ⟨_, _, e, q⟩ => by cases e; exact q, fun q => ⟨_, _, rfl, q⟩⟩
theorem in3 {α : Type} (P : α → α → α → Hd → Prop) (x y : α) : (fun z h1 => ∃ x' y' z', [x, y, z] = [x', y', z'] ∧ P x' y' z' h1) = P x y := by
  funext z h1
  exact propext ⟨fun ⟨_, _, _, e, q⟩ => by cases e; exact q, fun q => ⟨_, _, _, rfl, q⟩⟩
theorem di_rg1 (ok : COk C G k E X) (hb : mBlt C "range" = true) (ha : PE X a (tD X.K E Ta)) (hs : noStar [a] = true) :
    PI X tg (.Call (.Name "range" p) [a] [] pos) (iD X.K E fun ρ h Q Xd => Ta ρ h (fun x h1 => asInt x fun j => inRange j ∧ Q (rangeD 0 j.toNat 1) h1) Xd) := by
  obtain ⟨h1, h2⟩ := and2 hb
  obtain ⟨h2, h3⟩ := and2 h2
  refine PI.weak (pi_range1 (gl_of ok h2) (ok.free _ (of_decide_eq_true h1)) (da_cons ha da_nil hs) (star_cons hs)) fun σ H R ⟨ρ, h, Qd, Ed, re, hr, t, c, cx⟩ => ?_
  refine ⟨ρ, h, (fun ds h1 => ∃ x, ds = [x] ∧ asInt x fun j => inRange j ∧ Qd (rangeD 0 j.toNat 1) h1), Ed, re, hr, ?_, fun ds h1 vs H1 f1 hr1 r1 q1 => ?_, cx⟩
  · show Ta ρ h (fun x h1 => ∃ x', [x] = [x'] ∧ _) Ed
    rw [in1 fun x h1 => asInt x fun j => inRange j ∧ Qd (rangeD 0 j.toNat 1) h1]
    exact t
  · obtain ⟨x, rfl, qa⟩ := q1
    obtain ⟨j, rfl, q1⟩ := asInt_elim qa
    clear qa
    cases r1 with
    | cons r1 r2 =>
      cases r1; cases r2
      exact ⟨j, rfl, q1.1.1, q1.1.2, c _ _ _ _ f1 hr1 wk_range q1.2⟩
theorem di_rg2 (ok : COk C G k E X) (hb : mBlt C "range" = true) (ha : PE X a (tD X.K E Ta)) (hb2 : PE X b (tD X.K E Tb)) (hs : noStar [a, b] = true) :
    PI X tg (.Call (.Name "range" p) [a, b] [] pos) (iD X.K E fun ρ h Q Xd => Ta ρ h (fun x h1 => Tb ρ h1 (fun y h2 => asInt x fun i => asInt y fun j => inRange i ∧ inRange j ∧ Q (rangeD i (j - i).toNat 1) h2) Xd) Xd) := by
  obtain ⟨h1, h2⟩ := and2 hb
  obtain ⟨h2, h3⟩ := and2 h2
  have hs2 := (noStar_cons hs).1
  refine PI.weak (pi_range2 (gl_of ok h2) (ok.free _ (of_decide_eq_true h1)) (da_cons ha (da_cons hb2 da_nil hs2) hs) (by rw [star_cons hs, star_cons hs2]; rfl) (star_cons hs2)) fun σ H R ⟨ρ, h, Qd, Ed, re, hr, t, c, cx⟩ => ?_
  refine ⟨ρ, h, (fun ds h1 => ∃ x y, ds = [x, y] ∧ asInt x fun i => asInt y fun j => inRange i ∧ inRange j ∧ Qd (rangeD i (j - i).toNat 1) h1), Ed, re, hr, ?_, fun ds h1 vs H1 f1 hr1 r1 q1 => ?_, cx⟩
  · show Ta ρ h (fun x h1 => Tb ρ h1 (fun y h2 => ∃ x' y', [x, y] = [x', y'] ∧ _) Ed) Ed
    have e : (fun (x : D) (h1 : Hd) => Tb ρ h1 (fun y h2 => ∃ x' y', [x, y] = [x', y'] ∧ (asInt x' fun i => asInt y' fun j => inRange i ∧ inRange j ∧ Qd (rangeD i (j - i).toNat 1) h2)) Ed) = fun x h1 => Tb ρ h1 (fun y h2 => asInt x fun i => asInt y fun j => inRange i ∧ inRange j ∧ Qd (rangeD i (j - i).toNat 1) h2) Ed := by
      funext x h1
      rw [in2 fun x y h2 => asInt x fun i => asInt y fun j => inRange i ∧ inRange j ∧ Qd (rangeD i (j - i).toNat 1) h2]
    rw [e]
    exact t
  · obtain ⟨x, y, rfl, qa⟩ := q1
    obtain ⟨i, rfl, qb⟩ := asInt_elim qa
    obtain ⟨j, rfl, qc⟩ := asInt_elim qb
    obtain ⟨q2, q3, q⟩ := qc
    cases r1 with
    | cons r1 r2 =>
      cases r2 with
      | cons r2 r3 =>
        cases r1; cases r2; cases r3
        exact ⟨i, j, rfl, ⟨q2.1, q2.2, q3.1, q3.2⟩, c _ _ _ _ f1 hr1 wk_range q⟩
theorem di_rg3 {e : Expr} {Tc : TD} (ok : COk C G k E X) (hb : mBlt C "range" = true) (ha : PE X a (tD X.K E Ta)) (hb2 : PE X b (tD X.K E Tb)) (hc2 : PE X e (tD X.K E Tc)) (hs : noStar [a, b, e] = true) :
    PI X tg (.Call (.Name "range" p) [a, b, e] [] pos) (iD X.K E fun ρ h Q Xd => Ta ρ h (fun x h1 => Tb ρ h1 (fun y h2 => Tc ρ h2 (fun z h3 => asInt x fun i => asInt y fun j => asInt z fun k => ∃ n, RgC i j k n ∧ Q (rangeD i n k) h3) Xd) Xd) Xd) := by
  obtain ⟨h1, h2⟩ := and2 hb
  obtain ⟨h2, h3⟩ := and2 h2
  have hs2 := (noStar_cons hs).1
  have hs3 := (noStar_cons hs2).1
  refine PI.weak (pi_range3 (gl_of ok h2) (ok.free _ (of_decide_eq_true h1)) (da_cons ha (da_cons hb2 (da_cons hc2 da_nil hs3) hs2) hs) (star_cons hs) (noStar_any hs2)) fun σ H R ⟨ρ, h, Qd, Ed, re, hr, t, c, cx⟩ => ?_
  refine ⟨ρ, h, (fun ds h1 => ∃ x y z, ds = [x, y, z] ∧ asInt x fun i => asInt y fun j => asInt z fun k => ∃ n, RgC i j k n ∧ Qd (rangeD i n k) h1), Ed, re, hr, ?_, fun ds h1 vs H1 f1 hr1 r1 q1 => ?_, cx⟩
  · show Ta ρ h (fun x h1 => Tb ρ h1 (fun y h2 => Tc ρ h2 (fun z h3 => ∃ x' y' z', [x, y, z] = [x', y', z'] ∧ _) Ed) Ed) Ed
    have e : (fun (x : D) (h1 : Hd) => Tb ρ h1 (fun y h2 => Tc ρ h2 (fun z h3 => ∃ x' y' z', [x, y, z] = [x', y', z'] ∧ (asInt x' fun i => asInt y' fun j => asInt z' fun k => ∃ n, RgC i j k n ∧ Qd (rangeD i n k) h3)) Ed) Ed) = fun x h1 => Tb ρ h1 (fun y h2 => Tc ρ h2 (fun z h3 => asInt x fun i => asInt y fun j => asInt z fun k => ∃ n, RgC i j k n ∧ Qd (rangeD i n k) h3) Ed) Ed := by
      funext x h1
      have e : (fun (y : D) (h2 : Hd) => Tc ρ h2 (fun z h3 => ∃ x' y' z', [x, y, z] = [x', y', z'] ∧ (asInt x' fun i => asInt y' fun j => asInt z' fun k => ∃ n, RgC i j k n ∧ Qd (rangeD i n k) h3)) Ed) = fun y h2 => Tc ρ h2 (fun z h3 => asInt x fun i => asInt y fun j => asInt z fun k => ∃ n, RgC i j k n ∧ Qd (rangeD i n k) h3) Ed := by
        funext y h2
        rw [in3 fun x y z h3 => asInt x fun i => asInt y fun j => asInt z fun k => ∃ n, RgC i j k n ∧ Qd (rangeD i n k) h3]
      rw [e]
    rw [e]
    exact t
  · obtain ⟨x, y, z, rfl, qa⟩ := q1
    obtain ⟨i, rfl, qb⟩ := asInt_elim qa
    obtain ⟨j, rfl, qc⟩ := asInt_elim qb
    obtain ⟨kk, rfl, qd⟩ := asInt_elim qc
    obtain ⟨n, q2, q⟩ := qd
    cases r1 with
    | cons r1 r2 =>
      cases r2 with
      | cons r2 r3 =>
        cases r3 with
        | cons r3 r4 =>
          cases r1; cases r2; cases r3; cases r4
          exact ⟨i, j, kk, n, rfl, q2, c _ _ _ _ f1 hr1 wk_rangeC q⟩

/-! ### enumerate, zip: new pairs -/
theorem enum_get {ds : List D} {i : Nat} {d : D} (e : (enumD ds)[i]? = some d) : ∃ x, ds[i]? = some x ∧ d = .tup [.int i, x] := by
  unfold enumD at e
  rw [List.getElem?_map, List.getElem?_zipIdx] at e
  cases q : ds[i]? with
  | none => rw [q] at e; cases e
  | some x => rw [q] at e; cases e; exact ⟨x, rfl, by simp⟩
theorem enum_len {ds : List D} : (enumD ds).length = ds.length := by unfold enumD; simp
theorem zip_get {ds es : List D} {i : Nat} {d : D} (e : (zipD ds es)[i]? = some d) : ∃ x y, ds[i]? = some x ∧ es[i]? = some y ∧ d = .tup [x, y] := by
  unfold zipD at e
  rw [List.getElem?_map] at e
  cases q : (ds.zip es)[i]? with
  | none => rw [q] at e; cases e
  | some z =>
    rw [q] at e; cases e
    obtain ⟨x, y⟩ := z
    obtain ⟨q1, q2⟩ := List.getElem?_zip_eq_some.mp q
    exact ⟨x, y, q1, q2, rfl⟩
theorem zip_len {ds es : List D} : (zipD ds es).length = min ds.length es.length := by unfold zipD; simp
theorem pair_new {K : PySem.W.Frag} {h : Hd} {H : Hp} {d1 d2 : D} {v1 v2 : V} {T : Addr} (hr : HRel K H h) (n : H T = none) (r1 : Rep K H h d1 v1) (r2 : Rep K H h d2 v2) :
    Frm h H h (upd H T (.tup [v1, v2])) ∧ HRel K (upd H T (.tup [v1, v2])) h ∧ Rep K (upd H T (.tup [v1, v2])) h (.tup [d1, d2]) (.ref T) :=
  ⟨Frm.newF n, hr.newF n, Rep.newT hr (.cons r1 (.cons r2 .nil)) n⟩
theorem wk_enum {K : PySem.W.Frag} {h : Hd} {H : Hp} {ds : List D} {vs : List V} {a : Addr} (r : Reps K H h ds vs) (st : ∀ h2 H2, Frm h H h2 H2 → SqL K H2 a vs) : Wk K (Ite K a) h H (enumD ds) := fun h2 H2 f hr2 i => by
  refine ⟨fun d e => ?_, fun hl => ⟨vs, st h2 H2 f, by rw [← r.length, ← enum_len]; exact Nat.le_of_eq hl.symm⟩⟩
  obtain ⟨x, ex, rfl⟩ := enum_get e
  obtain ⟨v, e1, r1⟩ := r.get ex
  refine ⟨⟨vs, v, st h2 H2 f, e1⟩, fun y H' ⟨T, v2, e2, n, e3, hx⟩ => ?_⟩
  subst e2 e3
  have q := hx vs (st h2 _ f)
  rw [e1] at q; cases q
  exact pair_new hr2 n (.int _) (r1.frm f)
end
end Y
namespace Y
open PySem PySem.Spec PyProof.Rows L2

/-! ### the list side by side, as one that may be changed -/
theorem do_addM {X : Cx} : OpR X (binaryOp .Add) (lift2 X.K addM) := by
  intro pins s σ H u v v' u' Q I ru rv hx
  obtain ⟨h, x, y, Qd, hr, rx, ry, q, c⟩ := hx
  unfold addM at q
  cases e1 : seqL h x with
  | none => rw [e1] at q; exact q.elim
  | some i =>
    cases e2 : seqL h y with
    | none => rw [e1, e2] at q; exact q.elim
    | some j =>
      rw [e1, e2] at q
      obtain ⟨a, vs, rfl, ha, ra⟩ := seqL_ok hr rx e1
      obtain ⟨b, us, rfl, hb, rb⟩ := seqL_ok hr ry e2
      obtain ⟨z, q⟩ := q
      refine op_cat pins s σ H _ _ _ _ Q I ru rv ⟨a, b, vs, us, rfl, rfl, ha, hb, by rw [← ra.length, ← rb.length, ← List.length_append]; rw [List.length_append]; exact z, fun p n => ?_⟩
      have at_ : At X.K (upd H p (.lst (vs ++ us))) (hupd h p (.lst (i ++ j))) p (.lst (i ++ j)) := ⟨_, upd_same, (ra.append rb).frm (Frm.new n (hr.gone n))⟩
      exact c _ _ _ _ (Frm.new n (hr.gone n)) (hr.new n at_) (.ref p) (q p (hr.gone n))

/-! ### zip of lists and tuples in any order -/
def SqK (K : PySem.W.Frag) (H : Hp) (l : Bool) (a : Addr) (vs : List V) : Prop := match l with
  | true => SqL K H a vs
  | false => SqT K H a vs
def IsK (h : Heap) (l : Bool) (a : Addr) (its : Array Value) : Prop := match l with
  | true => h.IsList a its
  | false => h.IsTuple a its
def ItrK (h : Heap) (l : Bool) (it a : Addr) (i : Nat) : Prop := match l with
  | true => h.IsListIter it a i
  | false => h.IsTupleIter it a i
def itO (l : Bool) (a : Addr) : Obj := match l with
  | true => { cls := .type "list_iterator", data := .fields #[.ref a, .int 0 0] }
  | false => { cls := .type "tuple_iterator", data := .fields #[.ref a, .int 0 0] }
theorem drawsK {prog : Program} {w : World} {A : Around} (hh : A.handled = none) (l : Bool) (it a : Addr) (hne : a ≠ it) (items : Array Value) :
    Draws prog w A it [it, a] items.size (fun i v => items[i]? = some v) (fun i h => ItrK h l it a i ∧ IsK h l a items) := by
  cases l with
  | true => exact Draws.list hh it a hne items
  | false => exact Draws.tuple hh it a hne items
theorem beginsK (l : Bool) (a : Addr) (items : Array Value) : Begins (.ref a) (itO l a) fun h => IsK h l a items := by
  cases l with
  | true => exact begins_list a items
  | false => exact begins_tuple a items
theorem ItrK.start {h : Heap} {l : Bool} {it a : Addr} (e : h.get? it = some (itO l a)) : ItrK h l it a 0 := by
  cases l with
  | true => exact ⟨_, e, rfl, rfl⟩
  | false => exact ⟨_, e, rfl, rfl⟩
theorem ItrK.obj {h : Heap} {l : Bool} {it a : Addr} {i : Nat} (x : ItrK h l it a i) : ∃ o, h.get? it = some o ∧ ∀ v, o.data ≠ .cell v := by
  cases l with
  | true => obtain ⟨o, e1, _, d1⟩ := x; exact ⟨o, e1, fun v q => by rw [d1] at q; cases q⟩
  | false => obtain ⟨o, e1, _, d1⟩ := x; exact ⟨o, e1, fun v q => by rw [d1] at q; cases q⟩
theorem ItrK.at {h h' : Heap} {l : Bool} {it a : Addr} {i : Nat} (x : ItrK h l it a i) (k : ∀ o, h.get? it = some o → h'.get? it = some o) : ItrK h' l it a i := by
  cases l with
  | true => exact Heap.IsListIter.at x k
  | false => exact Heap.IsTupleIter.at x k
theorem IsK.lt {h : Heap} {l : Bool} {a : Addr} {its : Array Value} (x : IsK h l a its) : a < h.objs.size := by
  cases l with
  | true => obtain ⟨o, e, _⟩ := x; exact Heap.lt_size e
  | false => obtain ⟨o, e, _⟩ := x; exact Heap.lt_size e
theorem seqK {X : Cx} {pins : List (Addr × Obj)} {σ : L2.St} {s : Shared} {H : Hp} (I : Inv X pins σ H s) {l : Bool} {a : Addr} {vs : List V} (q : SqK X.K H l a vs) : ∃ its, Vals vs its ∧ IsK s.heap l a its.toArray := by
  cases l with
  | true => obtain ⟨its, r, p, _⟩ := I.list q; exact ⟨its, r, p.isList⟩
  | false => obtain ⟨its, r, p, _⟩ := I.tuple q; exact ⟨its, r, p⟩
theorem seqK_inj {X : Cx} {pins : List (Addr × Obj)} {σ : L2.St} {s : Shared} {H : Hp} (I : Inv X pins σ H s) {l : Bool} {a : Addr} {vs us : List V} (q : SqK X.K H l a vs) (q' : SqK X.K H l a us) : vs = us := by
  cases l with
  | true => exact I.list_inj q q'
  | false => exact I.tuple_inj q q'
def ItzK (K : PySem.W.Frag) (l m : Bool) (a b : Addr) : L2.It :=
  ⟨fun i H => ∃ (xs ys : List V) (x y : V), SqK K H l a xs ∧ SqK K H m b ys ∧ xs[i]? = some x ∧ ys[i]? = some y,
    fun i H v H' => ∃ T x y, v = .ref T ∧ H T = none ∧ H' = upd H T (.tup [x, y]) ∧ (∀ xs, SqK K H l a xs → xs[i]? = some x) ∧ ∀ ys, SqK K H m b ys → ys[i]? = some y,
    fun i H => ∃ xs ys : List V, SqK K H l a xs ∧ SqK K H m b ys ∧ i = min xs.length ys.length⟩
structure Apt (z TI TO i1 i2 a b : Addr) : Prop where
  sep : ZipSep2 z TI TO i1 i2 [i1, a] [i2, b]
  a1 : a ≠ i1
  b2 : b ≠ i2
theorem turn_zipK {P : Program} {w : World} {K : PySem.W.Frag} {elts : List Expr} {kk : Nat} {tpos : Pos} {l m : Bool} {a b z TI TO i1 i2 : Addr} (D : Apt z TI TO i1 i2 a b) :
    Turn P w K (.Tuple elts kk tpos) (ItzK K l m a b) [z, TI, TO, i1, i2] z (fun i h => IsZip h z TI TO .none ∧ IsTupOf2 h TI (.ref i1) (.ref i2) ∧ (∃ x y, IsTupOf2 h TO x y) ∧ ItrK h l i1 a i ∧ ItrK h m i2 b i) where
  mem := by simp
  obj := fun i h st c hc => by
    obtain ⟨hz, hTI, ⟨x, y, hTO⟩, h1, h2⟩ := st
    have e' : c = z ∨ c = TI ∨ c = TO ∨ c = i1 ∨ c = i2 := by simpa using hc
    rcases e' with q | q | q | q | q
    · rw [q]; exact ⟨_, hz, fun v q => nomatch q⟩
    · rw [q]; exact ⟨_, hTI, fun v q => nomatch q⟩
    · rw [q]; exact ⟨_, hTO, fun v q => nomatch q⟩
    · rw [q]; exact h1.obj
    · rw [q]; exact h2.obj
  keep := fun i h h' st k => by
    obtain ⟨hz, hTI, ⟨x, y, hTO⟩, h1, h2⟩ := st
    exact ⟨k z (by simp) _ hz, k TI (by simp) _ hTI, ⟨x, y, k TO (by simp) _ hTO⟩, h1.at fun o q => k i1 (by simp) o q, h2.at fun o q => k i2 (by simp) o q⟩
  item := by
    intro X hP hw hK hc i pins s σ H E I hf st hg
    subst hP hw hK
    obtain ⟨hz, hTI, ⟨x0, y0, hTO⟩, h1, h2⟩ := st
    obtain ⟨xs, ys, x, y, hqx, hqy, hx, hy⟩ := hg
    obtain ⟨its, rv, p⟩ := seqK I hqx
    obtain ⟨its2, rv2, p2⟩ := seqK I hqy
    obtain ⟨u, hu, ru⟩ := rv.get hx
    obtain ⟨u2, hu2, ru2⟩ := rv2.get hy
    have hlen : i < its.toArray.size := by
      have := (List.getElem?_eq_some_iff.mp hu).1
      simpa using this
    have hlen2 : i < its2.toArray.size := by
      have := (List.getElem?_eq_some_iff.mp hu2).1
      simpa using this
    have hzl : z < s.heap.objs.size := Heap.lt_size hz
    have hh : X.A.in1.handled = none := I.ok.hd hc
    refine wpAny_pyNext_zipD2_item D.sep (drawsK hh l i1 a D.a1 its.toArray) (drawsK hh m i2 b D.b2 its2.toArray) hz hTI hTO ⟨h1, p⟩ ⟨h2, p2⟩ hlen hlen2 fun w1 w2 h' tk e1 e2 z' TO' h1' h2' hT hsz hk => ?_
    have e1 : w1 = u := by have q : its.toArray[i]? = some u := by simpa using hu
                           rw [q] at e1; cases e1; rfl
    have e2 : w2 = u2 := by have q : its2.toArray[i]? = some u2 := by simpa using hu2
                            rw [q] at e2; cases e2; rfl
    subst e1 e2
    refine ⟨_, rfl, wpAny_letOwnedTupleGo_zip (s := { s with heap := h', toks := tk }) z' fun h'' z'' sb => ?_⟩
    have hT2 : h''.get? s.heap.objs.size = some { cls := .type "tuple", data := .seq #[w1, w2] } := (sb.2 _ (Nat.ne_of_gt hzl)).trans hT
    have new : ObjOk X.prog X.w (upd H s.heap.objs.size (.tup [x, y])) h'' s.heap.objs.size (.tup [x, y]) :=
      ⟨by show 2 ≤ sizeLine; decide, [w1, w2], .cons ru (.cons ru2 .nil), ⟨_, hT2, rfl, _, rfl⟩⟩
    have I1 : Inv X pins σ (upd H s.heap.objs.size (.tup [x, y])) { s with heap := h'', toks := tk } :=
      I.turnedNew (t' := tk) (ch := [z, TI, TO, i1, i2]) (fun c o hb q => (sb.2 c (fun q' => hb (by simp [q']))).trans (hk c o (fun q' => hb (by simp [q'])) (fun q' => hb (by simp [q'])) (fun q' => hb (by simp [q'])) (fun q' => hb (by simp [q'])) q)) hf (Nat.le_refl _) new
    refine ⟨.ref s.heap.objs.size, _, I1, rfl, ⟨_, x, y, rfl, I.hok.fresh (Nat.le_refl _), rfl, fun l hl => by rw [seqK_inj I hl hqx]; exact hx, fun l hl => by rw [seqK_inj I hl hqy]; exact hy⟩, ⟨z'', ?_, ⟨w1, w2, ?_⟩, ?_, ?_⟩, fun c hcm => ?_⟩
    · exact (sb.2 _ D.sep.TIz).trans (hk _ _ D.sep.TIz D.sep.TITO D.sep.TIi1 D.sep.TIi2 hTI)
    · exact (sb.2 _ D.sep.TOz).trans TO'
    · exact h1'.1.at fun o q => (sb.2 _ D.sep.zi1.symm).trans q
    · exact h2'.1.at fun o q => (sb.2 _ D.sep.zi2.symm).trans q
    · have hlt : c < s.heap.objs.size := by
        have e' : c = z ∨ c = TI ∨ c = TO ∨ c = i1 ∨ c = i2 := by simpa using hcm
        rcases e' with q | q | q | q | q
        · rw [q]; exact hzl
        · rw [q]; exact Heap.lt_size hTI
        · rw [q]; exact Heap.lt_size hTO
        · rw [q]; obtain ⟨_, e1, _⟩ := h1.obj; exact Heap.lt_size e1
        · rw [q]; obtain ⟨_, e2, _⟩ := h2.obj; exact Heap.lt_size e2
      rw [upd_ne (Nat.ne_of_lt hlt)]
      exact (hf c hcm).1
  done := by
    intro X hP hw hK hc i pins s σ H E I hf st hg
    subst hP hw hK
    obtain ⟨hz, hTI, ⟨x0, y0, hTO⟩, h1, h2⟩ := st
    obtain ⟨xs, ys, hqx, hqy, hend⟩ := hg
    obtain ⟨its, rv, p⟩ := seqK I hqx
    obtain ⟨its2, rv2, p2⟩ := seqK I hqy
    have l1 := rv.length
    have l2 := rv2.length
    have hh : X.A.in1.handled = none := I.ok.hd hc
    refine wpAny_pyNext_zipD2_end D.sep (drawsK hh l i1 a D.a1 its.toArray) (drawsK hh m i2 b D.b2 its2.toArray) hz hTI hTO ⟨h1, p⟩ ⟨h2, p2⟩ (by simp; omega) (by simp; omega) (by simp; omega) fun h' tk hk => ⟨rfl, I.turnedL (t' := tk) (ch := [z, TI, TO, i1, i2]) (fun c o hb q =>
      hk c o (fun q' => hb (by simp [q'])) (fun q' => hb (by simp [q'])) (fun q' => hb (by simp [q'])) (fun q' => hb (by simp [q'])) q) hf⟩
  self := fun A i s Q E st h => wpAny_pyIter_zip st.1 h
theorem wk_zipK {K : PySem.W.Frag} {h : Hd} {H : Hp} {ds es : List D} {vs us : List V} {l m : Bool} {a b : Addr} (r : Reps K H h ds vs) (r' : Reps K H h es us) (st : ∀ h2 H2, Frm h H h2 H2 → SqK K H2 l a vs) (st' : ∀ h2 H2, Frm h H h2 H2 → SqK K H2 m b us) :
    Wk K (ItzK K l m a b) h H (zipD ds es) := fun h2 H2 f hr2 i => by
  refine ⟨fun d e => ?_, fun hl => ⟨vs, us, st h2 H2 f, st' h2 H2 f, by rw [zip_len, r.length, r'.length] at hl; omega⟩⟩
  obtain ⟨x, y, ex, ey, rfl⟩ := zip_get e
  obtain ⟨v, e1, r1⟩ := r.get ex
  obtain ⟨u, e1', r1'⟩ := r'.get ey
  refine ⟨⟨vs, us, v, u, st h2 H2 f, st' h2 H2 f, e1, e1'⟩, fun y H' ⟨T, v2, u2, e2, n, e3, hx, hy⟩ => ?_⟩
  subst e2 e3
  have q := hx vs (st h2 _ f)
  rw [e1] at q; cases q
  have q := hy us (st' h2 _ f)
  rw [e1'] at q; cases q
  exact pair_new hr2 n (r1.frm f) (r1'.frm f)
section
variable {C : Ctx} {G : Prg} {k : Nat} {E : XK} {X : Cx} {a b d : Expr} {tg : Expr} {Ta Tb : TD} {Ts : TDs} {pos p tp : Pos} {elts : List Expr} {kk : Nat}
theorem lstF_ok {h : Hd} {H : Hp} {d : D} {v : V} {ds : List D} (r : Rep X.K H h d v) (e : lstF d = some ds) : ∃ a vs, v = .ref a ∧ Reps X.K H h ds vs ∧ ∀ h2 H2, Frm h H h2 H2 → SqL X.K H2 a vs := by
  cases r with
  | lst e1 n r =>
    cases e
    exact ⟨_, _, rfl, r, fun h2 H2 f => .inl (.inl (f.keep _ _ e1 n).1)⟩
  | scr e1 =>
    cases e
    exact ⟨_, _, rfl, Reps.ints _, fun h2 H2 f => (e1.frm f).sqL⟩
  | _ => cases e
theorem seqK_ok {h : Hd} {H : Hp} {d : D} {v : V} {ds : List D} (r : Rep X.K H h d v) (e : seqF d = some ds) : ∃ a vs l, v = .ref a ∧ Reps X.K H h ds vs ∧ ∀ h2 H2, Frm h H h2 H2 → SqK X.K H2 l a vs := by
  obtain ⟨a, vs, e1, r1, st | st⟩ := seqF_ok r e
  · exact ⟨a, vs, true, e1, r1, st⟩
  · exact ⟨a, vs, false, e1, r1, st⟩
theorem di_enm (ok : COk C G k E X) (hb : mBlt C "enumerate" = true) (ha : PE X a (tD X.K E Ta)) (hs : noStar [a] = true) :
    PI X (.Tuple elts kk tp) (.Call (.Name "enumerate" p) [a] [] pos) (iD X.K E fun ρ h Q Xd => Ta ρ h (fun x h1 => match lstF x with
    | some ds => Q (enumD ds) h1
    | none => False) Xd) := by
  obtain ⟨h1, h2⟩ := and2 hb
  obtain ⟨h2, h3⟩ := and2 h2
  refine PI.weak (pi_enum (gl_of ok h2) (ok.free _ (of_decide_eq_true h1)) (da_cons ha da_nil hs) (star_cons hs)) fun σ H R ⟨ρ, h, Qd, Ed, re, hr, t, c, cx⟩ => ?_
  refine ⟨ρ, h, (fun ds h1 => ∃ x, ds = [x] ∧ match lstF x with
    | some ds => Qd (enumD ds) h1
    | none => False), Ed, re, hr, ?_, fun ds h1 vs H1 f1 hr1 r1 q1 => ?_, cx⟩
  · show Ta ρ h (fun x h1 => ∃ x', [x] = [x'] ∧ _) Ed
    rw [in1 fun x h1 => match lstF x with
      | some ds => Qd (enumD ds) h1
      | none => False]
    exact t
  · obtain ⟨x, rfl, q1⟩ := q1
    cases r1 with
    | cons r1 r2 =>
      cases r2
      cases e : lstF x with
      | none => rw [e] at q1; exact q1.elim
      | some ds =>
        rw [e] at q1
        obtain ⟨a, vs, rfl, rs, st⟩ := lstF_ok r1 e
        exact ⟨a, vs, rfl, st _ _ Frm.refl, c _ _ _ _ f1 hr1 (wk_enum rs st) q1⟩
theorem apt_new {N a b : Nat} (h1 : a < N) (h2 : b < N) : Apt (N + 4) (N + 2) (N + 3) N (N + 1) a b :=
  ⟨zip_sep2 (fun c hc => by cases hc with | head => exact h1 | tail _ q => cases q) (fun c hc => by cases hc with | head => exact h2 | tail _ q => cases q), Nat.ne_of_lt h1, Nat.ne_of_lt (Nat.lt_succ_of_lt h2)⟩
theorem di_zip (ok : COk C G k E X) (hb : mBlt C "zip" = true) (ha : PE X a (tD X.K E Ta)) (hb2 : PE X b (tD X.K E Tb)) (hs : noStar [a, b] = true) :
    PI X (.Tuple elts kk tp) (.Call (.Name "zip" p) [a, b] [] pos) (iD X.K E fun ρ h Q Xd => Ta ρ h (fun x h1 => Tb ρ h1 (fun y h2 => match seqF x, seqF y with
    | some ds, some es => Q (zipD ds es) h2
    | _, _ => False) Xd) Xd) := by
  obtain ⟨h1, h2⟩ := and2 hb
  obtain ⟨h2, h3⟩ := and2 h2
  have hs2 := (noStar_cons hs).1
  refine ⟨fun pins s σ H R I hx => ?_⟩
  obtain ⟨ρ, h, Qd, Ed, re, hr, t, c, cx⟩ := hx
  have hp := da_cons ha (da_cons hb2 da_nil hs2) hs
  refine Call_ (ld_blt I (gl_of ok h2) (ok.free _ (of_decide_eq_true h1)) PyProof.Rows.boot_zip (PyProof.Rows.callWith_type1 (thn (hp.run pos pins s σ H (fun vs H1 => ∃ h1 x y, Frm h H h1 H1 ∧ HRel X.K H1 h1 ∧ Reps X.K H1 h1 [x, y] vs ∧ match seqF x, seqF y with
    | some ds, some es => Qd (zipD ds es) h1
    | _, _ => False) I ⟨ρ, h, (fun ds h1 => ∃ x y, ds = [x, y] ∧ match seqF x, seqF y with
    | some ds, some es => Qd (zipD ds es) h1
    | _, _ => False), Ed, re, hr, ?_, fun ds h1 vs H1 f1 hr1 r1 q1 => ?_, cx⟩) fun us s1 ⟨vs, H1, I1, r1, q1⟩ => ?_) (star_cons hs) (noStar_any hs2)))
  · show Ta ρ h (fun x h1 => Tb ρ h1 (fun y h2 => ∃ x' y', [x, y] = [x', y'] ∧ _) Ed) Ed
    have e : (fun (x : D) (h1 : Hd) => Tb ρ h1 (fun y h2 => ∃ x' y', [x, y] = [x', y'] ∧ (match seqF x', seqF y' with
      | some ds, some es => Qd (zipD ds es) h2
      | _, _ => False)) Ed) = fun x h1 => Tb ρ h1 (fun y h2 => match seqF x, seqF y with
      | some ds, some es => Qd (zipD ds es) h2
      | _, _ => False) Ed := by
      funext x h1
      rw [in2 fun x y h2 => match seqF x, seqF y with
        | some ds, some es => Qd (zipD ds es) h2
        | _, _ => False]
    exact e ▸ t
  · obtain ⟨x, y, rfl, q1⟩ := q1
    exact ⟨h1, x, y, f1, hr1, r1, q1⟩
  · obtain ⟨h1, x, y, f1, hr1, rd, q1⟩ := q1
    cases rd with
    | cons rx rd =>
      cases rd with
      | cons ry rd =>
        cases rd
        cases r1 with
        | cons r r1 =>
          cases r1 with
          | cons r' r1 =>
            cases r1
            cases e1 : seqF x with
            | none => rw [e1] at q1; exact q1.elim
            | some ds =>
              cases e2 : seqF y with
              | none => rw [e1, e2] at q1; exact q1.elim
              | some es =>
                rw [e1, e2] at q1
                obtain ⟨a1, vs, l, rfl, rs, st⟩ := seqK_ok rx e1
                obtain ⟨b1, us, m, rfl, rs', st'⟩ := seqK_ok ry e2
                cases r
                cases r'
                obtain ⟨its, rv, p1⟩ := seqK I1 (st _ _ Frm.refl)
                obtain ⟨its2, rv2, p2⟩ := seqK I1 (st' _ _ Frm.refl)
                have la := p1.lt
                have lb := p2.lt
                refine zip_begins2 (beginsK l a1 its.toArray) (beginsK m b1 its2.toArray) p1 p2 fun h' hz hTI hTO h1' h2' hsz hk => wpAny_pyIter_zip hz ?_
                have I2 : Inv X pins σ H1 { s1 with heap := h' } := I1.kept (t' := s1.toks) hk
                refine ⟨s1.heap.objs.size + 4, [s1.heap.objs.size + 4, s1.heap.objs.size + 2, s1.heap.objs.size + 3, s1.heap.objs.size, s1.heap.objs.size + 1], _, _, H1, rfl, I2, turn_zipK (l := l) (m := m) (apt_new la lb), ⟨hz, hTI, ⟨_, _, hTO⟩, .start h1', .start h2'⟩, fun c hcm => ?_, c _ _ _ _ f1 hr1 (wk_zipK rs rs' st st') q1⟩
                have e' : c = s1.heap.objs.size + 4 ∨ c = s1.heap.objs.size + 2 ∨ c = s1.heap.objs.size + 3 ∨ c = s1.heap.objs.size ∨ c = s1.heap.objs.size + 1 := by simpa using hcm
                have hle : s1.heap.objs.size ≤ c := by
                  rcases e' with z | z | z | z | z
                  · rw [z]; exact Nat.le_add_right _ _
                  · rw [z]; exact Nat.le_add_right _ _
                  · rw [z]; exact Nat.le_add_right _ _
                  · rw [z]; exact Nat.le_refl _
                  · rw [z]; exact Nat.le_add_right _ _
                exact I1.fpOk hle (I1.hok.fresh hle)
end
end Y
namespace Y
open PySem PySem.Spec PyProof.Rows L2

/-! ### targets by data -/
def Same (sl : List Nat) (σ σ' : L2.St) : Prop := σ'.length = σ.length ∧ ∀ j, j ∉ sl → σ'[j]? = σ[j]?
theorem Same.refl {sl : List Nat} {σ : L2.St} : Same sl σ σ := ⟨rfl, fun _ _ => rfl⟩
theorem Same.trans {sl tl : List Nat} {σ σ1 σ2 : L2.St} (a : Same sl σ σ1) (b : Same tl σ1 σ2) : Same (sl ++ tl) σ σ2 :=
  ⟨b.1.trans a.1, fun j h => by
    rw [List.mem_append, not_or] at h
    exact (b.2 j h.2).trans (a.2 j h.1)⟩
theorem wipe_get {σ : L2.St} : ∀ {vs : List Nat} {j : Nat}, (wipe σ vs)[j]? = if j < σ.length then (if j ∈ vs then some none else σ[j]?) else none
  | [], j => by
    show σ[j]? = _
    by_cases h : j < σ.length
    · rw [if_pos h]; simp
    · rw [if_neg h]; exact List.getElem?_eq_none (by omega)
  | v :: vs, j => by
    unfold wipe
    have hl := wipe_length σ vs
    by_cases e : v = j
    · subst e
      by_cases h : v < σ.length
      · rw [List.getElem?_set_self (by rw [hl]; exact h), if_pos h, if_pos List.mem_cons_self]
      · rw [if_neg h]; exact List.getElem?_eq_none (by rw [List.length_set, hl]; omega)
    · rw [List.getElem?_set_ne e, wipe_get]
      by_cases h : j < σ.length
      · rw [if_pos h, if_pos h]
        by_cases m : j ∈ vs
        · rw [if_pos m, if_pos (List.mem_cons_of_mem _ m)]
        · rw [if_neg m, if_neg (by simp only [List.mem_cons, not_or]; exact ⟨Ne.symm e, m⟩)]
      · rw [if_neg h, if_neg h]
theorem wipe_same {sl vs : List Nat} {σ σ' : L2.St} (h : ∀ i ∈ sl, i ∈ vs) (s : Same sl σ σ') : wipe σ' vs = wipe σ vs := by
  refine List.ext_getElem? fun j => ?_
  rw [wipe_get, wipe_get, s.1]
  by_cases hj : j < σ.length
  · rw [if_pos hj, if_pos hj]
    by_cases m : j ∈ vs
    · rw [if_pos m, if_pos m]
    · rw [if_neg m, if_neg m, s.2 j fun q => m (h j q)]
  · rw [if_neg hj, if_neg hj]
theorem wipe_wipe {vs : List Nat} {σ : L2.St} : wipe (wipe σ vs) vs = wipe σ vs := by
  refine List.ext_getElem? fun j => ?_
  rw [wipe_get, wipe_length, wipe_get]
  by_cases hj : j < σ.length
  · rw [if_pos hj, if_pos hj]
    by_cases m : j ∈ vs
    · rw [if_pos m, if_pos m]
    · rw [if_neg m]
  · rw [if_neg hj, if_neg hj]
theorem RelE.wipe {K : PySem.W.Frag} {H : Hp} {h : Hd} {ρ : DEnv} {σ : L2.St} (r : RelE K H h ρ σ) : ∀ vs : List Nat, RelE K H h (wipeE ρ vs) (L2.wipe σ vs)
  | [] => r
  | v :: vs => by
    have ih := RelE.wipe r vs
    unfold wipeE L2.wipe
    rw [noE_set]
    refine ⟨by simp [ih.len], fun j d z => ?_⟩
    by_cases hj : v = j
    · subst hj
      by_cases hi : v < (wipeE ρ vs).length
      · rw [List.getElem?_set_self hi] at z; cases z
      · rw [List.getElem?_eq_none (by simp; omega)] at z; cases z
    · rw [List.getElem?_set_ne hj] at z
      obtain ⟨u, e1, r1⟩ := ih.get j d z
      exact ⟨u, by rw [List.getElem?_set_ne hj]; exact e1, r1⟩
theorem RelE.st {K : PySem.W.Frag} {H : Hp} {h : Hd} {ρ : DEnv} {σ : L2.St} {d : D} {v : V} (r : RelE K H h ρ σ) (q : Rep K H h d v) (i : Nat) : RelE K H h (stE ρ i d) (σ.set i (some v)) := by rw [stE_set]; exact r.set q i
abbrev TDG := D → DEnv → Hd → (DEnv → Hd → Prop) → QX → Prop
abbrev TDGs := List D → DEnv → Hd → (DEnv → Hd → Prop) → QX → Prop
def ClG (K : PySem.W.Frag) (sl : List Nat) (h : Hd) (H : Hp) (σ : L2.St) (Qd : DEnv → Hd → Prop) (Q : L2.St → Hp → Prop) : Prop :=
  ∀ ρ1 h1 σ1 H1, Frm h H h1 H1 → HRel K H1 h1 → RelE K H1 h1 ρ1 σ1 → Same sl σ σ1 → Qd ρ1 h1 → Q σ1 H1
def tDG (K : PySem.W.Frag) (E : XK) (sl : List Nat) (T : TDG) : TG := fun v σ H Q => ∃ d ρ h Qd Ed, Rep K H h d v ∧ RelE K H h ρ σ ∧ HRel K H h ∧ T d ρ h Qd Ed ∧ ClG K sl h H σ Qd Q ∧ ClX K h H Ed E
def tDGs (K : PySem.W.Frag) (E : XK) (sl : List Nat) (T : TDGs) : TGs := fun vs σ H Q => ∃ ds ρ h Qd Ed, Reps K H h ds vs ∧ RelE K H h ρ σ ∧ HRel K H h ∧ T ds ρ h Qd Ed ∧ ClG K sl h H σ Qd Q ∧ ClX K h H Ed E
theorem _root_.L2.PG.weak {X : Cx} {e : Expr} {t t' : TG} (p : PG X e t) (w : ∀ v σ H Q, t' v σ H Q → t v σ H Q) : PG X e t' := ⟨fun pins s σ H v u Q I r h => p.run pins s σ H v u Q I r (w _ _ _ _ h)⟩
theorem _root_.L2.PGs.weak {X : Cx} {e : List Expr} {t t' : TGs} (p : PGs X e t) (w : ∀ v σ H Q, t' v σ H Q → t v σ H Q) : PGs X e t' := ⟨fun pins s σ H v u Q I r h => p.run pins s σ H v u Q I r (w _ _ _ _ h)⟩
section
variable {C : Ctx} {G : Prg} {k : Nat} {E : XK} {X : Cx} {a b e : Expr} {es : List Expr} {Ta Tb : TD} {Tg : TDG} {Tr : TDGs} {sl tl : List Nat} {pos p : Pos} {kk : Nat} {x : Str}
theorem dg_nm (ok : COk C G k E X) {i : Nat} (h : mSet C i x = true) : PG X (.Name x pos) (tDG X.K E [i] fun d ρ h Q _ => stK ρ i d fun ρ1 => Q ρ1 h) := by
  obtain ⟨h1, h2⟩ := and2 h
  obtain ⟨h3, h4⟩ := loc_of ok h2
  refine (pg_name (i := i) (by rw [ok.N]; exact ok.nd) (by rw [ok.N]; exact of_decide_eq_true h1) h3 h4).weak fun v σ H Q ⟨d, ρ, h, Qd, Ed, r, re, hr, t, c, cx⟩ => ?_
  dsimp only at t
  rw [stK_eq] at t
  exact c _ h _ H Frm.refl hr (re.st r i) ⟨by simp, fun j q => List.getElem?_set_ne fun z => q (by rw [z]; exact List.mem_cons_self)⟩ t
theorem dgs_nil : PGs X [] (tDGs X.K E [] fun ds ρ h Q _ => match ds with
    | [] => Q ρ h
    | _ => False) := pgs_nil.weak fun v σ H Q ⟨ds, ρ, h, Qd, Ed, r, re, hr, t, c, cx⟩ => by
  cases ds with
  | nil => cases r; exact ⟨rfl, c ρ h σ H Frm.refl hr re Same.refl t⟩
  | cons => exact t.elim
theorem noStar_asg {env : PySem.Env} (h : noStar (a :: es) = true) : assignEach (a :: es) env = (false, assign a env) :: assignEach es env := by
  cases a <;> first | rfl | cases h
theorem dgs_cons (ha : PG X a (tDG X.K E sl Tg)) (hr : PGs X es (tDGs X.K E tl Tr)) (hs : noStar (a :: es) = true) : PGs X (a :: es) (tDGs X.K E (sl ++ tl) fun ds ρ h Q Xd => match ds with
    | d :: ds => Tg d ρ h (fun ρ1 h1 => Tr ds ρ1 h1 Q Xd) Xd
    | [] => False) :=
  (pgs_cons ha hr (by rw [noStar_asg hs]; rfl)).weak fun v σ H Q ⟨ds, ρ, h, Qd, Ed, r, re, hr, t, c, cx⟩ => by
    cases r with
    | nil => exact t.elim
    | @cons d ds v vs r rr =>
      refine ⟨_, _, rfl, d, ρ, h, _, Ed, r, re, hr, t, fun ρ1 h1 σ1 H1 f1 hr1 re1 s1 q1 => ?_, cx⟩
      refine ⟨ds, ρ1, h1, Qd, Ed, rr.frm f1, re1, hr1, q1, fun ρ2 h2 σ2 H2 f2 hr2 re2 s2 q2 => ?_, cx.frm f1⟩
      exact c ρ2 h2 σ2 H2 (f1.trans f2) hr2 re2 (s1.trans s2) q2
theorem asg_len {env : PySem.Env} : ∀ {es : List Expr}, noStar es = true → (assignEach es env).length = es.length ∧ (assignEach es env).findIdx? (·.1) = none
  | [], _ => ⟨rfl, rfl⟩
  | e :: r, h => by
    obtain ⟨h1, h2⟩ := asg_len (env := env) (noStar_cons h).1
    rw [noStar_asg h]
    refine ⟨by rw [List.length_cons, List.length_cons, h1], ?_⟩
    rw [List.findIdx?_cons]
    show (if false = true then _ else _) = _
    rw [if_neg Bool.false_ne_true, h2]; rfl
theorem dg_tp {ts : List Expr} {n : Nat} (ok : COk C G k E X) (h : PGs X ts (tDGs X.K E sl Tr)) (hs : noStar ts = true) (hn : ts.length = n) : PG X (.Tuple ts kk pos) (tDG X.K E sl fun d ρ h Q Xd => match d with
    | .tup ds => ds.length = n ∧ Tr ds ρ h Q Xd
    | _ => False) :=
  (pg_tup ok.calm h (n := n) (by rw [(asg_len hs).1, hn]) (asg_len hs).2).weak fun v σ H Q ⟨d, ρ, h, Qd, Ed, r, re, hr, t, c, cx⟩ => by
    cases d with
    | tup ds =>
      obtain ⟨a, vs, rfl, sq, rs⟩ := r.sqT
      exact ⟨a, vs, rfl, sq, by rw [← rs.length]; exact t.1, ds, ρ, h, Qd, Ed, rs, re, hr, t.2, c, cx⟩
    | _ => exact t.elim
/-- a store into a list that may be changed -/
theorem setR_ok {K : PySem.W.Frag} {H : Hp} {h : Hd} {o i d : D} {u w v : V} {Qd : Hd → Prop} {Q : Hp → Prop} (hr : HRel K H h) (ro : Rep K H h o u) (ri : Rep K H h i w) (rd : Rep K H h d v) (q : setR o i d h Qd) (c : ∀ h1 H1, Frm h H h1 H1 → HRel K H1 h1 → Qd h1 → Q H1) : rSetL u w v H Q := by
  unfold setR at q
  split at q
  · rename_i a kx
    cases ro; cases ri
    split at q
    · rename_i ds e
      split at q
      · rename_i j e2
        obtain ⟨vs, e3, rs⟩ := hr a _ e
        refine ⟨a, vs, kx, j, rfl, rfl, e3, by rw [← rs.length]; exact e2, ?_⟩
        have f := Frm.put (H := H) (o := HO.lst (vs.set j v)) (d := D.lst (ds.set j d)) e (fun z => nomatch z)
        exact c _ _ f (hr.put e (fun z => nomatch z) ⟨_, upd_same, (rs.set j rd).frm f⟩) q
      · exact q.elim
    · exact q.elim
  · exact q.elim
theorem dg_sb (ha : PE X a (tD X.K E Ta)) (hb : PE X b (tD X.K E Tb)) (hs : isSlice b = false) : PG X (.Subscript a b pos) (tDG X.K E [] fun d ρ h Q Xd => Ta ρ h (fun o h1 => Tb ρ h1 (fun kx h2 => setR o kx d h2 (fun h3 => Q ρ h3)) Xd) Xd) :=
  (pg_sub ha hb set_list (by intro v; cases b <;> first | rfl | (cases hs; done))).weak fun v σ H Q ⟨d, ρ, h, Qd, Ed, r, re, hr, t, c, cx⟩ => by
    refine ⟨ρ, h, _, Ed, re, hr, t, fun d1 h1 v1 H1 f1 hr1 r1 q1 => ?_, cx⟩
    refine ⟨ρ, h1, _, Ed, re.frm f1, hr1, q1, fun d2 h2 v2 H2 f2 hr2 r2 q2 => ?_, cx.frm f1⟩
    refine setR_ok hr2 (r1.frm f2) r2 ((r.frm f1).frm f2) q2 fun h3 H3 f3 hr3 q3 => ?_
    have f := f1.trans (f2.trans f3)
    exact c ρ h3 σ H3 f hr3 (re.frm f) Same.refl q3
end

/-! ### comprehensions -/
def NoX : XK := fun _ _ _ => False
abbrev Ctx.blk (C : Ctx) (scope : Scope) : Ctx := { C with sc := relS scope C.sc, fnc := fun x => scope.names.lookup x == some .cell }
theorem COk.blk {C : Ctx} {G : Prg} {k : Nat} {E : XK} {X : Cx} (ok : COk C G k E X) {scope : Scope} (hk : scope.kind = .function) (s : Shared) (H : Hp) (A : Addr) (cl : List (Str × Addr)) (fp : List Addr) :
    COk (C.blk scope) G k NoX (X.blk s H scope (compEnvC scope cl A X.env) fp) where
  N := ok.N
  nd := ok.nd
  sc := by show relS scope X.env.scope = relS scope C.sc; rw [ok.sc]
  kind := hk
  fnc := rfl
  calm := ok.calm
  room := ok.room
  free := ok.free
  cns := ok.cns
  fns := fun f i e => ⟨⟨(ok.fns f i e).1.ok⟩, (ok.fns f i e).2⟩
  px := fun _ _ _ _ _ _ _ ⟨_, _, _, _, _, _, _, _, _, _, _, _, h⟩ => h.elim
  po := PassesOwn.never
theorem ClX.no {K : PySem.W.Frag} {h : Hd} {H : Hp} : ClX K h H (fun _ _ => False) NoX := fun _ _ _ _ _ _ _ _ q => q.elim
section
variable {C : Ctx} {G : Prg} {k : Nat} {E : XK} {X : Cx} {elt tg iter : Expr} {ifs : List Expr} {scope : Scope} {own : List (Str × Nat)} {sl : List Nat} {WI : TDs} {Tg : TDG} {Tc : TDt} {Te : TD} {pos : Pos} {m : Bool}
/-- what a comprehension asks, as the hand layer asks it -/
theorem comp_weak (hsl : ∀ i ∈ sl, i ∈ own.map (·.2)) (σ : L2.St) (H : Hp) (Q : VK)
    (x : tD X.K E (fun ρ h Q Xd => WI ρ h (fun ds h1 => ∀ D, h1 D = none → loopC Tg Tc Te (wipeE ρ (own.map (·.2))) (fun ys h2 => if m = true then Q (.ref D) (hupd h2 D (.lst ys)) else Q (.lst ys) (hdel h2 D)) ds [] (hupd h1 D .non)) Xd) σ H Q) :
    tLc (iD X.K E WI) (tDG X.K NoX sl Tg) (tDt X.K NoX Tc) (tD X.K NoX Te) (own.map (·.2)) σ H Q := by
  obtain ⟨ρ, h, Qd, Ed, re, hr, t, c, cx⟩ := x
  refine ⟨ρ, h, _, Ed, re, hr, t, fun ds h1 H1 J f1 hr1 wk q D hn => ?_, cx⟩
  have hnD := hr1.gone hn
  have q := q D hnD
  generalize hvs : own.map (·.2) = vs at *
  let P : Nat → Hp → Prop := fun i H2 => ∃ h2 acc us, Frm h1 H1 h2 H2 ∧ HRel X.K H2 h2 ∧ h2 D = some .non ∧ H2 D = some (.lst us) ∧ Reps X.K H2 h2 acc us ∧
    loopC Tg Tc Te (wipeE ρ vs) (fun ys h2 => if m = true then Qd (.ref D) (hupd h2 D (.lst ys)) else Qd (.lst ys) (hdel h2 D)) (ds.drop i) acc h2
  refine ⟨fun i n H2 => n = ds.length - i ∧ i ≤ ds.length ∧ P i H2, ⟨ds.length, rfl, Nat.zero_le _, hupd h1 D .non, [], [], Frm.new hn hnD, hr1.new hn ⟨_, upd_same⟩, hupd_same, upd_same, .nil, q⟩, ?_⟩
  rintro i n H2 ⟨rfl, hi, h2, acc, us, f2, hr2, hD, HD, ra, q2⟩
  have wk2 := wk h2 H2 f2 hr2 i
  by_cases hlt : i < ds.length
  · have e1 : ds.drop i = ds[i] :: ds.drop (i + 1) := List.drop_eq_getElem_cons hlt
    rw [e1] at q2
    obtain ⟨go, yl⟩ := wk2.1 ds[i] (List.getElem?_eq_getElem hlt)
    refine .inr ⟨go, fun H' => P (i + 1) H', fun H' p => ⟨ds.length - (i + 1), by omega, rfl, hlt, p⟩, fun x H' y => ?_⟩
    obtain ⟨f3, hr3, r3⟩ := yl x H' y
    have re3 := (re.frm (f1.trans (f2.trans f3))).wipe vs
    have q2 : Tg ds[i] (wipeE ρ vs) h2 (fun ρ1 h1 => Tc ρ1 h1 (fun b h2 => if b = true then Te ρ1 h2 (fun y h3 => acc.length < sizeLine ∧ loopC Tg Tc Te (wipeE ρ vs) _ (ds.drop (i + 1)) (acc ++ [y]) h3) (fun _ _ => False) else loopC Tg Tc Te (wipeE ρ vs) _ (ds.drop (i + 1)) acc h2) (fun _ _ => False)) (fun _ _ => False) := q2
    refine ⟨ds[i], _, h2, _, _, r3, re3, hr3, q2, fun ρ4 h4 σ4 H4 f4 hr4 re4 s4 q4 => ?_, ClX.no⟩
    refine ⟨(wipe_same hsl s4).trans wipe_wipe, ρ4, h4, _, _, re4, hr4, q4, fun b h5 H5 f5 hr5 q5 => ?_, ClX.no⟩
    have f35 := f3.trans (f4.trans f5)
    have hid := f35.hid D hD
    cases b with
    | false =>
      rw [if_neg Bool.false_ne_true] at q5
      show P (i + 1) H5
      exact ⟨h5, acc, us, f2.trans f35, hr5, hid.1, hid.2 _ HD, ra.frm f35, q5⟩
    | true =>
      rw [if_pos rfl] at q5
      show tD X.K NoX Te σ4 H5 fun y H4 => ∃ acc, H4 D = some (.lst acc) ∧ acc.length < sizeLine ∧ P (i + 1) (upd H4 D (.lst (acc ++ [y])))
      refine ⟨ρ4, h5, _, _, re4.frm f5, hr5, q5, fun d6 h6 v6 H6 f6 hr6 r6 q6 => ?_, ClX.no⟩
      have f36 := f35.trans f6
      have hid := f36.hid D hD
      have r := (ra.frm f36).append (.cons r6 .nil)
      have l := (ra.frm f36).length
      have kp : Kp h6 H6 h6 (upd H6 D (.lst (us ++ [v6]))) := Kp.putN hid.1
      refine ⟨us, hid.2 _ HD, by rw [← l]; exact q6.1, h6, acc ++ [d6], us ++ [v6], ⟨⟨fun a o e1 e2 => ?_⟩, fun a e1 => ?_⟩, hr6.putN hid.1, hid.1, upd_same, r.kp kp, q6.2⟩
      · obtain ⟨z1, z2⟩ := (f2.trans f36).keep a o e1 e2
        exact kp.keep a o z1 z2
      · obtain ⟨z1, z2⟩ := (f2.trans f36).hid a e1
        have ne : a ≠ D := fun z => by rw [z, hnD] at e1; cases e1
        exact ⟨z1, fun o q => by rw [upd_ne ne]; exact z2 o q⟩
  · have e : i = ds.length := by omega
    subst e
    rw [List.drop_length] at q2
    refine .inl ⟨wk2.2 rfl, ?_⟩
    have f := f1.trans f2
    have q2 : if m = true then Qd (.ref D) (hupd h2 D (.lst acc)) else Qd (.lst acc) (hdel h2 D) := q2
    have back : ∀ {h3 : Hd}, (∀ a, a ≠ D → h3 a = h2 a) → Frm h H h3 H2 := fun {h3} e => by
      refine ⟨⟨fun a o e1 e2 => ?_⟩, fun a e1 => ?_⟩
      · obtain ⟨z1, z2⟩ := f1.keep a o e1 e2
        have ne : a ≠ D := fun z => by rw [z, hn] at z1; cases z1
        obtain ⟨z3, z4⟩ := f2.keep a o z1 z2
        exact ⟨z3, by rw [e a ne]; exact z4⟩
      · obtain ⟨z1, z2⟩ := f1.hid a e1
        have ne : a ≠ D := fun z => by rw [z, hnD] at z1; cases z1
        obtain ⟨z3, z4⟩ := f2.hid a z1
        exact ⟨by rw [e a ne]; exact z3, fun o q => z4 o (z2 o q)⟩
    cases m with
    | true =>
      rw [if_pos rfl] at q2
      exact c _ _ _ _ (back fun a ne => hupd_ne ne) (hr2.out hD (d := .lst acc) ⟨us, HD, ra.kp (Kp.out hD)⟩) (.ref D) q2
    | false =>
      rw [if_neg Bool.false_ne_true] at q2
      exact c _ _ _ _ (back fun a ne => hdel_ne ne) hr2.del (.lst HD hdel_same (ra.kp Kp.del)) q2
/-- what stands after `in` in a comprehension -/
def plainIt : Expr → Bool
  | .Set .. => false
  | _ => true
theorem plainIt_eq {e : Expr} {env : PySem.Env} (h : plainIt e = true) : ∀ x, foldedSetIterable e env x = pure x := by
  intro x
  cases e <;> first | rfl | (cases h; done)
variable (ok : COk C G k E X) (hi : PI X tg iter (iD X.K E WI)) (hb : blkC C.N C.sc scope own = true)
  (hg : ∀ (s : Shared) (H : Hp) (A : Addr) (cl : List (Str × Addr)) (fp : List Addr), PG (X.blk s H scope (compEnvC scope cl A X.env) fp) tg (tDG X.K NoX sl Tg))
  (ht : ∀ (s : Shared) (H : Hp) (A : Addr) (cl : List (Str × Addr)) (fp : List Addr), PTs (X.blk s H scope (compEnvC scope cl A X.env) fp) ifs (tDt X.K NoX Tc))
  (he : ∀ (s : Shared) (H : Hp) (A : Addr) (cl : List (Str × Addr)) (fp : List Addr), PE (X.blk s H scope (compEnvC scope cl A X.env) fp) elt (tD X.K NoX Te))
  (hsl : ∀ i ∈ sl, i ∈ own.map (·.2)) (hp : plainIt iter = true)
include ok hi hb hg ht he hsl hp
theorem d_comp : PE X (.ListComp elt [⟨tg, iter, ifs, 0⟩] scope pos) (tD X.K E fun ρ h Q Xd => WI ρ h (fun ds h1 => ∀ D, h1 D = none → loopC Tg Tc Te (wipeE ρ (own.map (·.2))) (fun ys h2 => if m = true then Q (.ref D) (hupd h2 D (.lst ys)) else Q (.lst ys) (hdel h2 D)) ds [] (hupd h1 D .non)) Xd) :=
  (pe_lc ok.calm (by rw [ok.N]; exact ok.nd) hi (by rw [ok.N, ok.sc]; exact blkOk_by hb) hg ht he (plainIt_eq hp)).weak fun σ H Q x => comp_weak hsl σ H Q x
end
end Y
namespace Y
open PySem PySem.Spec PyProof.Rows L2

/-! ### statements by data -/
structure ClN (K : PySem.W.Frag) (h : Hd) (H : Hp) (Nd : EndsD) (N : L2.Ends) : Prop where
  nx : ∀ ρ1 h1 σ1 H1, Frm h H h1 H1 → HRel K H1 h1 → RelE K H1 h1 ρ1 σ1 → Nd.nx ρ1 h1 → N.nx σ1 H1
  rt : Cl K h H Nd.rt N.rt
  bk : ∀ ρ1 h1 σ1 H1, Frm h H h1 H1 → HRel K H1 h1 → RelE K H1 h1 ρ1 σ1 → Nd.bk ρ1 h1 → N.bk σ1 H1
  ct : ∀ ρ1 h1 σ1 H1, Frm h H h1 H1 → HRel K H1 h1 → RelE K H1 h1 ρ1 σ1 → Nd.ct ρ1 h1 → N.ct σ1 H1
theorem ClN.frm {K : PySem.W.Frag} {h h1 : Hd} {H H1 : Hp} {Nd : EndsD} {N : L2.Ends} (c : ClN K h H Nd N) (f : Frm h H h1 H1) : ClN K h1 H1 Nd N :=
  ⟨fun ρ h σ H g => c.nx ρ h σ H (f.trans g), c.rt.frm f, fun ρ h σ H g => c.bk ρ h σ H (f.trans g), fun ρ h σ H g => c.ct ρ h σ H (f.trans g)⟩
def tDS (K : PySem.W.Frag) (E : XK) (T : TDS) : TS := fun N σ H => ∃ ρ h Nd Ed, RelE K H h ρ σ ∧ HRel K H h ∧ T ρ h Nd Ed ∧ ClN K h H Nd N ∧ ClX K h H Ed E
/-- what is given up -/
theorem frz_ok {K : PySem.W.Frag} {H : Hp} {h : Hd} {d : D} {v : V} {Q : QD} (hr : HRel K H h) (r : Rep K H h d v) (q : frzR d h Q) : ∃ d' h', Q d' h' ∧ Frm h H h' H ∧ HRel K H h' ∧ Rep K H h' d' v := by
  cases d with
  | ref a =>
    cases r
    cases e : h a with
    | none => simp only [frzR, e] at q
    | some x =>
      cases x with
      | lst ds =>
        simp only [frzR, e] at q
        obtain ⟨vs, e1, rs⟩ := hr a _ e
        exact ⟨_, _, q, Frm.del (by rw [e]; exact fun z => nomatch z), hr.del, .lst e1 hdel_same (rs.kp Kp.del)⟩
      | ins C ns ds =>
        simp only [frzR, e] at q
        obtain ⟨dx, vs, e1, l, rs⟩ := hr a _ e
        exact ⟨_, _, q, Frm.del (by rw [e]; exact fun z => nomatch z), hr.del, .ins e1 hdel_same l (rs.kp Kp.del)⟩
      | dct ks ds =>
        simp only [frzR, e] at q
        obtain ⟨vs, e1, l, rs⟩ := hr a _ e
        exact ⟨_, _, q, Frm.del (by rw [e]; exact fun z => nomatch z), hr.del, .dct e1 hdel_same l (rs.kp Kp.del)⟩
      | _ => simp only [frzR, e] at q
  | _ => exact ⟨_, h, q, Frm.refl, hr, r⟩
theorem RelE.putD {K : PySem.W.Frag} {H : Hp} {h : Hd} {ρ : DEnv} {σ : L2.St} {d : D} {v : V} {i : Nat} (r : RelE K H h ρ σ) (e : σ[i]? = some (some v)) (q : Rep K H h d v) : RelE K H h (stE ρ i d) σ := by
  rw [stE_set]
  refine ⟨by simp [r.len], fun j x z => ?_⟩
  by_cases hj : i = j
  · subst hj
    by_cases hi : i < ρ.length
    · rw [List.getElem?_set_self hi] at z; cases z
      exact ⟨v, e, q⟩
    · rw [List.getElem?_eq_none (by simp; omega)] at z; cases z
  · rw [List.getElem?_set_ne hj] at z
    exact r.get j x z
/-! op= -/
theorem lstV_ok {K : PySem.W.Frag} {H : Hp} {h : Hd} {d : D} {v : V} {ds : List D} (hr : HRel K H h) (r : Rep K H h d v) (e : lstV h d = some ds) : ∃ a vs, v = .ref a ∧ H a = some (.lst vs) ∧ Reps K H h ds vs := by
  cases d with
  | lst es =>
    cases e
    cases r with
    | lst e1 n r => exact ⟨_, _, rfl, e1, r⟩
  | ref a =>
    cases r
    unfold lstV at e
    dsimp only at e
    split at e
    · rename_i es e2
      cases e
      obtain ⟨vs, e1, rs⟩ := hr a _ e2
      exact ⟨a, vs, rfl, e1, rs⟩
    · cases e
  | _ => cases e
def opO : Op2 → Operator
  | .add => .Add | .sub => .Sub | .mul => .Mult | .fdiv => .FloorDiv | .mod => .Mod | .pow => .Pow | .addM => .Add
theorem do_iop {X : Cx} (o : Op2) : PIp X (opO o) (lift2 X.K (iopR o)) := by
  intro pins s σ H x0 y0 v u Q I ru rv hx
  obtain ⟨h, x, y, Qd, hr, rx, ry, q, c⟩ := hx
  cases o with
  | add =>
    cases x with
    | int i =>
      cases y with
      | int j =>
        cases rx; cases ry
        exact iop_add pins s σ H _ _ _ _ Q I ru rv ⟨i, j, rfl, rfl, c.here hr (.int _) q⟩
      | _ => exact q.elim
    | str i =>
      cases y with
      | str j =>
        cases rx; cases ry
        exact iop_add_str pins s σ H _ _ _ _ Q I ru rv ⟨i, j, rfl, rfl, q.1, c.here hr (.str _) q.2⟩
      | _ => exact q.elim
    | ref a =>
      have q : (match h a with
        | some (.lst ds) => match lstV h y with
          | some es => ds.length + es.length ≤ sizeLine ∧ Qd (.ref a) (hupd h a (.lst (ds ++ es)))
          | none => False
        | _ => False) := by
        cases y <;> exact q
      cases rx
      split at q
      · rename_i ds e
        split at q
        · rename_i es e2
          obtain ⟨vs, e1, rs⟩ := hr a _ e
          obtain ⟨b, us, rfl, e3, rs2⟩ := lstV_ok hr ry e2
          refine iop_ext pins s σ H _ _ _ _ Q I ru rv ⟨a, b, vs, us, rfl, rfl, e1, e3, by rw [← rs.length, ← rs2.length]; exact q.1, ?_⟩
          have f := Frm.put (H := H) (o := HO.lst (vs ++ us)) (d := D.lst (ds ++ es)) e (fun z => nomatch z)
          exact c _ _ _ _ f (hr.put e (fun z => nomatch z) ⟨_, upd_same, (rs.append rs2).frm f⟩) (.ref a) q.2
        · exact q.elim
      · exact q.elim
    | _ => exact q.elim
  | sub =>
    cases x with
    | int i =>
      cases y with
      | int j =>
        cases rx; cases ry
        exact iop_sub pins s σ H _ _ _ _ Q I ru rv ⟨i, j, rfl, rfl, c.here hr (.int _) q⟩
      | _ => exact q.elim
    | _ => exact q.elim
  | mul =>
    cases x with
    | int i =>
      cases y with
      | int j =>
        cases rx; cases ry
        exact iop_mul pins s σ H _ _ _ _ Q I ru rv ⟨i, j, rfl, rfl, q.1, c.here hr (.int _) q.2⟩
      | _ => exact q.elim
    | _ => exact q.elim
  | _ => exact q.elim
/-- a[i] of a list that may be changed -/
theorem get_lst {X : Cx} : PGet X (lift2 X.K getR) := by
  intro pins s σ H o i ov iv Q I ro ri hx
  obtain ⟨h, x, y, Qd, hr, rx, ry, q, c⟩ := hx
  unfold getR at q
  split at q
  · rename_i a kx
    cases rx; cases ry; cases ro
    obtain ⟨t, rfl⟩ := ri
    split at q
    · rename_i ds e
      split at q
      · rename_i d e2
        obtain ⟨vs, e3, rs⟩ := hr a _ e
        obtain ⟨v, e4, rd⟩ := atI_rep rs e2
        obtain ⟨its, r, pl, hz⟩ := I.list (.inl (.inl e3))
        obtain ⟨j, h1, h2, h3, h4, h5⟩ := atI_get e4
        obtain ⟨w, ew, rw'⟩ := r.get h2
        have hl := r.length
        have hn := line63
        have fin : EP X pins σ Q w s := ⟨v, H, I, rw', c.here hr rd q⟩
        by_cases h0 : 0 ≤ kx
        · have hj : kx.toNat = j := by
            rw [seqIndex_of h0 h5] at h1
            exact Option.some.inj h1
          exact wpAny_getItem_list pl.isList h0 (by omega) (by rw [hj]; simpa using ew) fin
        · have hj : (kx + (its.toArray.size : Int)).toNat = j := by
            rw [seqIndex_neg (by omega) h4] at h1
            rw [List.size_toArray, ← hl]
            exact Option.some.inj h1
          exact wpAny_getItem_list_neg pl.isList (by omega) (by rw [List.size_toArray] <;> omega) (by omega) (by rw [hj]; simpa using ew) fin
      · exact q.elim
    · exact q.elim
  · exact q.elim
section
variable {C : Ctx} {G : Prg} {k : Nat} {E : XK} {X : Cx} {a b e tg iter : Expr} {es : List Expr} {st : Stmt} {sts sa sb : List Stmt} {Ta Tb Te : TD} {Ts : TDs} {Tt : TDt} {Tg : TDG} {Tr : TDGs} {U V : TDS} {WI : TDs} {sl tl : List Nat} {pos p : Pos} {kk : Nat} {x : Str}
theorem dss_nil : PSs X [] (tDS X.K E fun ρ h N _ => N.nx ρ h) := pss_nil.weak fun N σ H ⟨ρ, h, Nd, Ed, re, hr, t, c, cx⟩ => c.nx ρ h σ H Frm.refl hr re t
theorem dss_cons (h1 : PS X st (tDS X.K E U)) (h2 : PSs X sts (tDS X.K E V)) : PSs X (st :: sts) (tDS X.K E fun ρ h N Xd => U ρ h { N with nx := fun ρ1 h1 => V ρ1 h1 N Xd } Xd) :=
  (pss_cons h1 h2).weak fun N σ H ⟨ρ, h, Nd, Ed, re, hr, t, c, cx⟩ =>
    ⟨ρ, h, _, Ed, re, hr, t, ⟨fun ρ1 h1 σ1 H1 f1 hr1 re1 q1 => ⟨ρ1, h1, Nd, Ed, re1, hr1, q1, c.frm f1, cx.frm f1⟩, c.rt, c.bk, c.ct⟩, cx⟩
theorem dss_never {V : TDS} (hV : ∀ ρ h N Xd, V ρ h N Xd → False) : PSs X sts (tDS X.K E V) := pss_never.weak fun N σ H ⟨ρ, h, Nd, Ed, re, hr, t, c, cx⟩ => (hV _ _ _ _ t).elim
theorem ds_never : PS X st (tDS X.K E fun _ _ _ _ => False) := ps_never.weak fun N σ H ⟨ρ, h, Nd, Ed, re, hr, t, c, cx⟩ => t.elim
/-- what may be changed is given up: no statement of the text -/
theorem dss_frz {i : Nat} (h : PSs X sts (tDS X.K E V)) : PSs X sts (tDS X.K E fun ρ h N Xd => match lk ρ i with
    | some d => frzR d h fun d h1 => stK ρ i d fun ρ1 => V ρ1 h1 N Xd
    | _ => False) := h.weak fun N σ H ⟨ρ, h, Nd, Ed, re, hr, t, c, cx⟩ => by
  dsimp only at t
  split at t
  · rename_i d e
    obtain ⟨v, e1, r⟩ := re.get i d (lk_get e)
    obtain ⟨d', h', q, f, hr', r'⟩ := frz_ok hr r t
    rw [stK_eq] at q
    exact ⟨_, h', Nd, Ed, (re.frm f).putD e1 r', hr', q, c.frm f, cx.frm f⟩
  · exact t.elim
theorem de_frz (ha : PE X a (tD X.K E Ta)) : PE X a (tD X.K E fun ρ h Q Xd => Ta ρ h (fun x h1 => frzR x h1 Q) Xd) := ha.weak fun σ H Q ⟨ρ, h, Qd, Ed, re, hr, t, c, cx⟩ =>
  ⟨ρ, h, _, Ed, re, hr, t, fun d1 h1 v1 H1 f1 hr1 r1 q1 => by
    obtain ⟨d', h', q, f, hr', r'⟩ := frz_ok hr1 r1 q1
    exact c _ _ _ _ (f1.trans f) hr' r' q, cx⟩
theorem ds_pass : PS X (.Pass pos) (tDS X.K E fun ρ h N _ => N.nx ρ h) := ps_pass.weak fun N σ H ⟨ρ, h, Nd, Ed, re, hr, t, c, cx⟩ => c.nx ρ h σ H Frm.refl hr re t
theorem ds_brk : PS X (.Break pos) (tDS X.K E fun ρ h N _ => N.bk ρ h) := ps_break.weak fun N σ H ⟨ρ, h, Nd, Ed, re, hr, t, c, cx⟩ => c.bk ρ h σ H Frm.refl hr re t
theorem ds_cnt : PS X (.Continue pos) (tDS X.K E fun ρ h N _ => N.ct ρ h) := ps_continue.weak fun N σ H ⟨ρ, h, Nd, Ed, re, hr, t, c, cx⟩ => c.ct ρ h σ H Frm.refl hr re t
theorem ds_ret (he : PE X e (tD X.K E Te)) : PS X (.Return (some e) pos) (tDS X.K E fun ρ h N Xd => Te ρ h N.rt Xd) := (ps_ret he).weak fun N σ H ⟨ρ, h, Nd, Ed, re, hr, t, c, cx⟩ => ⟨ρ, h, Nd.rt, Ed, re, hr, t, c.rt, cx⟩
theorem ds_retN : PS X (.Return none pos) (tDS X.K E fun ρ h N Xd => N.rt .non h) := ps_retN.weak fun N σ H ⟨ρ, h, Nd, Ed, re, hr, t, c, cx⟩ => c.rt.here hr .non t
def isCall : Expr → Bool
  | .Call _ _ _ _ => true
  | _ => false
theorem ds_expr (he : PE X e (tD X.K E Te)) (hc : isCall e = true) : PS X (.Expr e pos) (tDS X.K E fun ρ h N Xd => Te ρ h (fun _ h1 => N.nx ρ h1) Xd) :=
  (ps_expr he (by cases e <;> first | rfl | (cases hc; done))).weak fun N σ H ⟨ρ, h, Nd, Ed, re, hr, t, c, cx⟩ => ⟨ρ, h, _, Ed, re, hr, t, fun d1 h1 v1 H1 f1 hr1 r1 q1 => c.nx ρ h1 σ H1 f1 hr1 (re.frm f1) q1, cx⟩
theorem ds_if (hc : PT X e (tDt X.K E Tt)) (ha : PSs X sa (tDS X.K E U)) (hb : PSs X sb (tDS X.K E V)) : PS X (.If e sa sb pos) (tDS X.K E fun ρ h N Xd => Tt ρ h (fun k h1 => if k = true then U ρ h1 N Xd else V ρ h1 N Xd) Xd) :=
  (ps_if hc ha hb).weak fun N σ H ⟨ρ, h, Nd, Ed, re, hr, t, c, cx⟩ => ⟨ρ, h, _, Ed, re, hr, t, fun k h1 H1 f1 hr1 q1 => by
    cases k with
    | true => rw [if_pos rfl] at q1 ⊢; exact ⟨ρ, h1, Nd, Ed, re.frm f1, hr1, q1, c.frm f1, cx.frm f1⟩
    | false => rw [if_neg Bool.false_ne_true] at q1 ⊢; exact ⟨ρ, h1, Nd, Ed, re.frm f1, hr1, q1, c.frm f1, cx.frm f1⟩, cx⟩
theorem asg_weak (N : L2.Ends) (σ : L2.St) (H : Hp) (x : tDS X.K E (fun ρ h N Xd => Te ρ h (fun d h1 => Tg d ρ h1 N.nx Xd) Xd) N σ H) : tAsg (tD X.K E Te) (tDG X.K E sl Tg) N σ H := by
  obtain ⟨ρ, h, Nd, Ed, re, hr, t, c, cx⟩ := x
  refine ⟨ρ, h, _, Ed, re, hr, t, fun d1 h1 v1 H1 f1 hr1 r1 q1 => ?_, cx⟩
  exact ⟨d1, ρ, h1, Nd.nx, Ed, r1, re.frm f1, hr1, q1, fun ρ2 h2 σ2 H2 f2 hr2 re2 s2 q2 => c.nx ρ2 h2 σ2 H2 (f1.trans f2) hr2 re2 q2, cx.frm f1⟩
theorem ds_asg (ok : COk C G k E X) (he : PE X e (tD X.K E Te)) (hg : PG X tg (tDG X.K E sl Tg)) (h1 : okVal e = true) (h2 : swc C.sc e tg = false) (h3 : swp C.sc tg e = some none) (h4 : noStar [tg] = true) :
    PS X (.Assign [tg] e pos) (tDS X.K E fun ρ h N Xd => Te ρ h (fun d h1 => Tg d ρ h1 N.nx Xd) Xd) :=
  (ps_asg he hg (by show swapsWith e (some tg) pos.line X.env = pure false; rw [swc_ok ok.sc ok.kind h1, h2]) (swp_ok ok.sc ok.kind h3) (by rw [noStar_asg h4]; rfl)).weak asg_weak
theorem ds_while (ok : COk C G k E X) (hc : PT X e (tDt X.K E Tt)) (hb : PSs X sb (tDS X.K E V)) : PS X (.While e sb [] pos) (tDS X.K E fun ρ h N Xd => loopW Tt V ρ h N Xd) :=
  (ps_while ok.po hc hb).weak fun N σ H ⟨ρ, h, Nd, Ed, re, hr, t, c, cx⟩ => by
    obtain ⟨W, ⟨m0, w0⟩, turn⟩ := t
    refine ⟨fun m σ1 H1 => ∃ ρ1 h1, Frm h H h1 H1 ∧ HRel X.K H1 h1 ∧ RelE X.K H1 h1 ρ1 σ1 ∧ W m ρ1 h1, ⟨m0, ρ, h, Frm.refl, hr, re, w0⟩, ?_⟩
    rintro m σ1 H1 ⟨ρ1, h1, f1, hr1, re1, w1⟩
    refine ⟨ρ1, h1, _, Ed, re1, hr1, turn m ρ1 h1 w1, fun k h2 H2 f2 hr2 q2 => ?_, cx.frm f1⟩
    cases k with
    | true =>
      rw [if_pos rfl] at q2
      rw [if_pos rfl]
      refine ⟨fun σ' H' => ∃ m', m' < m ∧ ∃ ρ' h', Frm h H h' H' ∧ HRel X.K H' h' ∧ RelE X.K H' h' ρ' σ' ∧ W m' ρ' h', fun σ' H' q => q, ρ1, h2, _, Ed, re1.frm f2, hr2, q2, ?_, (cx.frm f1).frm f2⟩
      have f := f1.trans f2
      exact ⟨fun ρ3 h3 σ3 H3 f3 hr3 re3 ⟨m', hm, q3⟩ => ⟨m', hm, ρ3, h3, f.trans f3, hr3, re3, q3⟩, c.rt.frm f, fun ρ3 h3 σ3 H3 f3 => c.nx ρ3 h3 σ3 H3 (f.trans f3), fun ρ3 h3 σ3 H3 f3 hr3 re3 ⟨m', hm, q3⟩ => ⟨m', hm, ρ3, h3, f.trans f3, hr3, re3, q3⟩⟩
    | false =>
      rw [if_neg Bool.false_ne_true] at q2
      rw [if_neg Bool.false_ne_true]
      exact c.nx ρ1 h2 σ1 H2 (f1.trans f2) hr2 (re1.frm f2) q2
theorem ds_for (ok : COk C G k E X) (hi : PI X tg iter (iD X.K E WI)) (hg : PG X tg (tDG X.K E sl Tg)) (hb : PSs X sb (tDS X.K E V)) (hp : plainIt iter = true) :
    PS X (.For tg iter sb [] pos) (tDS X.K E fun ρ h N Xd => WI ρ h (fun ds h1 => loopF Tg V N Xd ds ρ h1) Xd) :=
  (ps_for ok.po ok.calm hi hg hb (plainIt_eq hp)).weak fun N σ H ⟨ρ, h, Nd, Ed, re, hr, t, c, cx⟩ => by
    refine ⟨ρ, h, _, Ed, re, hr, t, fun ds h1 H1 J f1 hr1 wk q1 => ?_, cx⟩
    let P : Nat → L2.St → Hp → Prop := fun i σ2 H2 => ∃ ρ2 h2, Frm h1 H1 h2 H2 ∧ HRel X.K H2 h2 ∧ RelE X.K H2 h2 ρ2 σ2 ∧ loopF Tg V Nd Ed (ds.drop i) ρ2 h2
    refine ⟨fun i n σ2 H2 => n = ds.length - i ∧ i ≤ ds.length ∧ P i σ2 H2, ⟨ds.length, rfl, Nat.zero_le _, ρ, h1, Frm.refl, hr1, re.frm f1, q1⟩, ?_⟩
    rintro i n σ2 H2 ⟨rfl, hi, ρ2, h2, f2, hr2, re2, q2⟩
    have wk2 := wk h2 H2 f2 hr2 i
    have f12 := f1.trans f2
    by_cases hlt : i < ds.length
    · have e1 : ds.drop i = ds[i] :: ds.drop (i + 1) := List.drop_eq_getElem_cons hlt
      rw [e1] at q2
      obtain ⟨go, yl⟩ := wk2.1 ds[i] (List.getElem?_eq_getElem hlt)
      refine .inr ⟨go, fun σ' H' => P (i + 1) σ' H', fun σ' H' p => ⟨ds.length - (i + 1), by omega, rfl, hlt, p⟩, fun x H' y => ?_⟩
      obtain ⟨f3, hr3, r3⟩ := yl x H' y
      have q2 : Tg ds[i] ρ2 h2 (fun ρ1 h1 => V ρ1 h1 { nx := loopF Tg V Nd Ed (ds.drop (i + 1)), rt := Nd.rt, bk := Nd.nx, ct := loopF Tg V Nd Ed (ds.drop (i + 1)) } Ed) Ed := q2
      have f13 := f12.trans f3
      refine ⟨ds[i], ρ2, h2, _, Ed, r3, re2.frm f3, hr3, q2, fun ρ4 h4 σ4 H4 f4 hr4 re4 s4 q4 => ?_, cx.frm f13⟩
      have f14 := f13.trans f4
      have go2 : ∀ ρ1 h1 σ1 H1, Frm h4 H4 h1 H1 → HRel X.K H1 h1 → RelE X.K H1 h1 ρ1 σ1 → loopF Tg V Nd Ed (ds.drop (i + 1)) ρ1 h1 → P (i + 1) σ1 H1 :=
        fun ρ5 h5 σ5 H5 f5 hr5 re5 q5 => ⟨ρ5, h5, f2.trans (f3.trans (f4.trans f5)), hr5, re5, q5⟩
      exact ⟨ρ4, h4, _, Ed, re4, hr4, q4, ⟨go2, c.rt.frm f14, fun ρ5 h5 σ5 H5 f5 => c.nx ρ5 h5 σ5 H5 (f14.trans f5), go2⟩, cx.frm f14⟩
    · have e : i = ds.length := by omega
      subst e
      rw [List.drop_length] at q2
      exact .inl ⟨wk2.2 rfl, c.nx ρ2 h2 σ2 H2 f12 hr2 re2 q2⟩
theorem ds_aug (ok : COk C G k E X) {i : Nat} {o : Op2} (hx : mSet C i x = true) (he : PE X e (tD X.K E Te)) : PS X (.AugAssign (.Name x p) (opO o) e pos) (tDS X.K E fun ρ h N Xd => match lk ρ i with
    | some x => Te ρ h (fun y h1 => iopR o x y h1 fun d h2 => stK ρ i d fun ρ1 => N.nx ρ1 h2) Xd
    | _ => False) := by
  obtain ⟨h1, h2⟩ := and2 hx
  obtain ⟨h3, h4⟩ := loc_of ok h2
  refine (ps_aug (i := i) (by rw [ok.N]; exact ok.nd) (by rw [ok.N]; exact of_decide_eq_true h1) h3 he (do_iop o) h4).weak fun N σ H ⟨ρ, h, Nd, Ed, re, hr, t, c, cx⟩ => ?_
  dsimp only at t
  split at t
  · rename_i d e
    obtain ⟨v, e1, r⟩ := re.get i d (lk_get e)
    refine ⟨v, e1, ρ, h, _, Ed, re, hr, t, fun d1 h1 v1 H1 f1 hr1 r1 q1 => ?_, cx⟩
    refine ⟨h1, d, d1, _, hr1, r.frm f1, r1, q1, fun d2 h2 v2 H2 f2 hr2 r2 q2 => ?_⟩
    have f := f1.trans f2
    rw [stK_eq] at q2
    exact c.nx _ h2 _ H2 f hr2 ((re.frm f).st r2 i) q2
  · exact t.elim
theorem ds_augS {o : Op2} (ha : PE X a (tD X.K E Ta)) (hb : PE X b (tD X.K E Tb)) (he : PE X e (tD X.K E Te)) (hs : isSlice b = false) : PS X (.AugAssign (.Subscript a b p) (opO o) e pos) (tDS X.K E fun ρ h N Xd =>
    Ta ρ h (fun x h1 => Tb ρ h1 (fun kx h2 => getR x kx h2 (fun y h3 => Te ρ h3 (fun z h4 => iopR o y z h4 fun d h5 => setR x kx d h5 fun h6 => N.nx ρ h6) Xd)) Xd) Xd) :=
  (ps_augS ha hb get_lst he (do_iop o) set_list (by intros; cases b <;> first | rfl | (cases hs; done))).weak fun N σ H ⟨ρ, h, Nd, Ed, re, hr, t, c, cx⟩ => by
    refine ⟨ρ, h, _, Ed, re, hr, t, fun d1 h1 v1 H1 f1 hr1 r1 q1 => ?_, cx⟩
    refine ⟨ρ, h1, _, Ed, re.frm f1, hr1, q1, fun d2 h2 v2 H2 f2 hr2 r2 q2 => ?_, cx.frm f1⟩
    have f12 := f1.trans f2
    refine ⟨h2, d1, d2, _, hr2, r1.frm f2, r2, q2, fun d3 h3 v3 H3 f3 hr3 r3 q3 => ?_⟩
    have f13 := f12.trans f3
    refine ⟨ρ, h3, _, Ed, re.frm f13, hr3, q3, fun d4 h4 v4 H4 f4 hr4 r4 q4 => ?_, cx.frm f13⟩
    refine ⟨h4, d3, d4, _, hr4, r3.frm f4, r4, q4, fun d5 h5 v5 H5 f5 hr5 r5 q5 => ?_⟩
    have g := f3.trans (f4.trans f5)
    have f15 := f12.trans g
    exact setR_ok hr5 ((r1.frm f2).frm g) (r2.frm g) r5 q5 fun h6 H6 f6 hr6 q6 => c.nx ρ h6 σ H6 (f15.trans f6) hr6 (re.frm (f15.trans f6)) q6
theorem ds_par {i j : Nat} {y : Str} {px py pt pt2 : Pos} {kt k2 : Nat} (ok : COk C G k E X) (hi : C.N[i]? = some x) (hj : C.N[j]? = some y) (hij : i ≠ j) (lx : C.sc.names.lookup x = some .local) (ly : C.sc.names.lookup y = some .local)
    (ha : PA X [a, b] (tDs X.K E Ts)) (hw : swp C.sc (.Tuple [.Name x px, .Name y py] kt pt) (.Tuple [a, b] k2 pt2) = some (some [x, y])) :
    PS X (.Assign [.Tuple [.Name x px, .Name y py] kt pt] (.Tuple [a, b] k2 pt2) pos) (tDS X.K E fun ρ h N Xd => Ts ρ h (fun ds h1 => setMK ρ [i, j] ds fun ρ1 => N.nx ρ1 h1) Xd) :=
  (ps_par ok.calm (by rw [ok.N]; exact ok.nd) (by rw [ok.N]; exact hi) (by rw [ok.N]; exact hj) hij (by rw [ok.sc]; exact lx) (by rw [ok.sc]; exact ly) ha (swp_ok ok.sc ok.kind hw)).weak fun N σ H ⟨ρ, h, Nd, Ed, re, hr, t, c, cx⟩ => by
    refine ⟨ρ, h, _, Ed, re, hr, t, fun ds h1 vs H1 f1 hr1 r1 q1 => ?_, cx⟩
    match ds, vs, r1, q1 with
    | [], _, _, q1 => exact q1.elim
    | [_], _, _, q1 =>
      have q1 : stK ρ i _ fun ρ1 => False := q1
      rw [stK_eq] at q1
      exact q1.elim
    | [d1, d2], _, .cons r1 (.cons r2 .nil), q1 =>
      have q1 : stK ρ i d1 fun ρ1 => stK ρ1 j d2 fun ρ1 => Nd.nx ρ1 h1 := q1
      rw [stK_eq, stK_eq] at q1
      exact ⟨_, _, rfl, c.nx _ h1 _ H1 f1 hr1 (((re.frm f1).st r1 i).st r2 j) q1⟩
    | _ :: _ :: _ :: _, _, _, q1 =>
      have q1 : stK ρ i _ fun ρ1 => stK ρ1 j _ fun ρ1 => False := q1
      rw [stK_eq, stK_eq] at q1
      exact q1.elim
theorem ds_par3 {i j l : Nat} {y z : Str} {d : Expr} {px py pz pt pt2 : Pos} {kt k2 : Nat} (ok : COk C G k E X) (hi : C.N[i]? = some x) (hj : C.N[j]? = some y) (hl : C.N[l]? = some z) (hij : i ≠ j) (hil : i ≠ l) (hjl : j ≠ l) (lx : C.sc.names.lookup x = some .local) (ly : C.sc.names.lookup y = some .local) (lz : C.sc.names.lookup z = some .local)
    (ha : PA X [a, b, d] (tDs X.K E Ts)) (hw : swp C.sc (.Tuple [.Name x px, .Name y py, .Name z pz] kt pt) (.Tuple [a, b, d] k2 pt2) = some (some [x, y, z])) :
    PS X (.Assign [.Tuple [.Name x px, .Name y py, .Name z pz] kt pt] (.Tuple [a, b, d] k2 pt2) pos) (tDS X.K E fun ρ h N Xd => Ts ρ h (fun ds h1 => setMK ρ [i, j, l] ds fun ρ1 => N.nx ρ1 h1) Xd) :=
  (ps_par3 ok.calm (by rw [ok.N]; exact ok.nd) (by rw [ok.N]; exact hi) (by rw [ok.N]; exact hj) (by rw [ok.N]; exact hl) hij hil hjl (by rw [ok.sc]; exact lx) (by rw [ok.sc]; exact ly) (by rw [ok.sc]; exact lz) ha (swp_ok ok.sc ok.kind hw)).weak fun N σ H ⟨ρ, h, Nd, Ed, re, hr, t, c, cx⟩ => by
    refine ⟨ρ, h, _, Ed, re, hr, t, fun ds h1 vs H1 f1 hr1 r1 q1 => ?_, cx⟩
    match ds, vs, r1, q1 with
    | [], _, _, q1 => exact q1.elim
    | [_], _, _, q1 =>
      have q1 : stK ρ i _ fun ρ1 => False := q1
      rw [stK_eq] at q1
      exact q1.elim
    | [_, _], _, _, q1 =>
      have q1 : stK ρ i _ fun ρ1 => stK ρ1 j _ fun ρ1 => False := q1
      rw [stK_eq, stK_eq] at q1
      exact q1.elim
    | [d1, d2, d3], _, .cons r1 (.cons r2 (.cons r3 .nil)), q1 =>
      have q1 : stK ρ i d1 fun ρ1 => stK ρ1 j d2 fun ρ1 => stK ρ1 l d3 fun ρ1 => Nd.nx ρ1 h1 := q1
      rw [stK_eq, stK_eq, stK_eq] at q1
      exact ⟨_, _, _, rfl, c.nx _ h1 _ H1 f1 hr1 ((((re.frm f1).st r1 i).st r2 j).st r3 l) q1⟩
    | _ :: _ :: _ :: _ :: _, _, _, q1 =>
      have q1 : stK ρ i _ fun ρ1 => stK ρ1 j _ fun ρ1 => stK ρ1 l _ fun ρ1 => False := q1
      rw [stK_eq, stK_eq, stK_eq] at q1
      exact q1.elim
variable {elt : Expr} {ifs : List Expr} {scope : Scope} {own : List (Str × Nat)} {Tc : TDt} {m : Bool} {cpos spos : Pos}
theorem ds_setLc {i : Nat} (ok : COk C G k E X) (hx : mSet C i x = true) (hl : C.sc.names.lookup x = some .local) (hi : PI X tg iter (iD X.K E WI)) (hb : blkC C.N C.sc scope own = true)
    (hg : ∀ (s : Shared) (H : Hp) (A : Addr) (cl : List (Str × Addr)) (fp : List Addr), PG (X.blk s H scope (compEnvC scope cl A X.env) fp) tg (tDG X.K NoX sl Tg))
    (ht : ∀ (s : Shared) (H : Hp) (A : Addr) (cl : List (Str × Addr)) (fp : List Addr), PTs (X.blk s H scope (compEnvC scope cl A X.env) fp) ifs (tDt X.K NoX Tc))
    (he : ∀ (s : Shared) (H : Hp) (A : Addr) (cl : List (Str × Addr)) (fp : List Addr), PE (X.blk s H scope (compEnvC scope cl A X.env) fp) elt (tD X.K NoX Te))
    (hsl : ∀ i ∈ sl, i ∈ own.map (·.2)) (hp : plainIt iter = true) (hw : swc C.sc (.ListComp elt [⟨tg, iter, ifs, 0⟩] scope cpos) (.Name x p) = true) :
    PS X (.Assign [.Name x p] (.ListComp elt [⟨tg, iter, ifs, 0⟩] scope cpos) spos) (tDS X.K E fun ρ h N Xd => WI ρ h (fun ds h1 => ∀ D, h1 D = none → loopC Tg Tc Te (wipeE ρ (own.map (·.2))) (fun ys h2 => if m = true then (stK ρ i (.ref D) fun ρ1 => N.nx ρ1 (hupd h2 D (.lst ys))) else (stK ρ i (.lst ys) fun ρ1 => N.nx ρ1 (hdel h2 D))) ds [] (hupd h1 D .non)) Xd) := by
  obtain ⟨h1, h2⟩ := and2 hx
  refine (ps_setLc ok.calm (by rw [ok.N]; exact ok.nd) (i := i) (by rw [ok.N]; exact of_decide_eq_true h1) (by rw [ok.sc]; exact hl) (by rw [swc_ok ok.sc ok.kind rfl, hw]) hi (by rw [ok.N, ok.sc]; exact blkOk_by hb) hg ht he (plainIt_eq hp)).weak fun N σ H ⟨ρ, h, Nd, Ed, re, hr, t, c, cx⟩ => ?_
  refine comp_weak (m := m) hsl σ H _ ⟨ρ, h, fun d h1 => stK ρ i d fun ρ1 => Nd.nx ρ1 h1, Ed, re, hr, t, fun d1 h1 v1 H1 f1 hr1 r1 q1 => ?_, cx⟩
  dsimp only at q1
  rw [stK_eq] at q1
  exact c.nx _ h1 _ H1 f1 hr1 ((re.frm f1).st r1 i) q1
end
end Y
namespace Y
open PySem PySem.Spec PyProof.Rows L2

/-! ### the small syntax against the text -/
mutual
def Tg.sl : Tg → List Nat
  | .nm i => [i]
  | .tp ts => ts.sl
  | .sb _ _ => []
def Tgs.sl : Tgs → List Nat
  | .nil => []
  | .cons t r => t.sl ++ r.sl
end
def restB (o : BoolOp) (y : Expr) (r : List Expr) (p : Pos) : Expr := match r with
  | [] => y
  | _ :: _ => .BoolOp o (y :: r) p
def ownN (N : List Str) (own : List Nat) : List (Str × Nat) := own.map fun i => ((N[i]?).getD "", i)
theorem ownN_snd (N : List Str) (own : List Nat) : (ownN N own).map (·.2) = own := by
  unfold ownN
  rw [List.map_map]
  exact List.map_id _
def lineB : Expr → Bool
  | .Call (.Attribute _ _ p) _ _ q => lineOk p q
  | _ => false
def sameLen {α β : Type} : List α → List β → Bool
  | [], [] => true
  | _ :: r, _ :: s => sameLen r s
  | _, _ => false
def optE (l : E) : Option Expr → Option Expr → Bool := fun _ _ => true
mutual
def mE (C : Ctx) : E → Expr → Bool
  | .non, e => decide (vConst e = some .none)
  | .bl b, e => decide (vConst e = some (.bool b))
  | .int i, e => decide (vConst e = some (.int i))
  | .str x, e => decide (vConst e = some (.str x))
  | .loc i, e => match vName e with
    | some x => mVar C i x
    | none => false
  | .glo k, e => match vName e with
    | some x => mGlo C k x
    | none => false
  | .op o a b, e => match vBin e with
    | some (ea, oo, eb) => decide (opO o = oo) && (mE C a ea && mE C b eb)
    | none => false
  | .neg a, e => match vUn e with
    | some (u, ea) => decide (u = .USub) && mE C a ea
    | none => false
  | .cmp c a b, e => match vCmp e with
    | some (ea, o, eb) => decide (o = c) && (!(behindInMarks c eb) && (mE C a ea && mE C b eb))
    | none => false
  | .chn c c' a b d, e => match vChn e with
    | some (ea, o, eb, o', ed) => decide (o = c) && (decide (o' = c') && (!(lastMarks [c, c'] [eb, ed]) && (mE C a ea && (mE C b eb && mE C d ed))))
    | none => false
  | .andE a b, e => match vBool e with
    | some (o, x, y, r, p) => decide (o = .And) && (mE C a x && mE C b (restB .And y r p))
    | none => false
  | .orE a b, e => match vBool e with
    | some (o, x, y, r, p) => decide (o = .Or) && (mE C a x && mE C b (restB .Or y r p))
    | none => false
  | .notE a, e => match vUn e with
    | some (u, ea) => decide (u = .Not) && mE C a ea
    | none => false
  | .ife c a b, e => match vIf e with
    | some (ec, ea, eb) => mE C c ec && (mE C a ea && mE C b eb)
    | none => false
  | .tup es, e => match vTup e with
    | some xs => mEs C es xs
    | none => false
  | .lst _ es, e => match vLst e with
    | some xs => mEs C es xs
    | none => false
  | .ix a i, e => match vSub e with
    | some (ea, ei) => !(isSlice ei) && (mE C a ea && mE C i ei)
    | none => false
  | .slc a l u, e => match vSlice e with
    | some (ea, el, eu) => mE C a ea && ((match el with
      | none => isNonE l
      | some x => !(isNonE l) && mE C l x) && (match eu with
      | none => isNonE u
      | some x => !(isNonE u) && mE C u x))
    | none => false
  | .rev a, e => match vRev e with
    | some ea => mE C a ea
    | none => false
  | .bif b as, e => match vCall e with
    | some (x, xs, ks) => decide (x = b.nm) && (mBlt C b.nm && (ks.isEmpty && (!(xs.isEmpty) && mEs C as xs)))
    | none => false
  | .isi a t, e => match vCall e with
    | some (x, [ea, et], []) => decide (x = "isinstance") && (decide (vName et = some t.nm) && (mBlt C "isinstance" && (mBlt C t.nm && (noStar [ea] && mE C a ea))))
    | _ => false
  | .call f s as kas, e => match vCall e with
    | some (x, xs, ks) => (match C.fns.lookup f with
      | some i => (match i.shapes[s]? with
        | some sh => decide (i.name = x) && (glB C.sc x && (okName x && (decide (kwN ks = sh.ks.map some) && (mEs C as xs && mEs C kas (kwE ks)))))
        | none => false)
      | none => false)
    | none => false
  | .mth o m as, e => match vMeth e with
    | some (eo, x, xs, ks) => decide (x = m.nm) && (ks.isEmpty && (!(xs.isEmpty) && (baseOk eo && (decide (xs.length < 20) && (lineB e && (mE C o eo && mEs C as xs))))))
    | none => false
  | .comp _ own b t it cs, e => match vComp e with
    | some (elt, et, ei, ecs, scope) => blkC C.N C.sc scope (ownN C.N own) && (t.sl.all (fun i => own.contains i) && (plainIt ei && (mI C it et ei && (mG (C.blk scope) t et && (mC (C.blk scope) cs ecs && mE (C.blk scope) b elt)))))
    | none => false
  | .frz a, e => mE C a e
def mEs (C : Ctx) : Es → List Expr → Bool
  | .nil, es => es.isEmpty
  | .cons a r, es => match es with
    | [] => false
    | e :: es => noStar (e :: es) && (mE C a e && mEs C r es)
def mC (C : Ctx) : Es → List Expr → Bool
  | .nil, es => es.isEmpty
  | .cons a r, es => match es with
    | [e] => mE C a e
    | _ => false
def mG (C : Ctx) : Tg → Expr → Bool
  | .nm i, e => match vName e with
    | some x => mSet C i x
    | none => false
  | .tp ts, e => match vTup e with
    | some es => noStar es && (decide (es.length = ts.len) && mGs C ts es)
    | none => false
  | .sb a i, e => match vSub e with
    | some (ea, ei) => !(isSlice ei) && (mE C a ea && mE C i ei)
    | none => false
def mGs (C : Ctx) : Tgs → List Expr → Bool
  | .nil, es => es.isEmpty
  | .cons t r, es => match es with
    | [] => false
    | e :: es => noStar (e :: es) && (mG C t e && mGs C r es)
def mI (C : Ctx) : It → Expr → Expr → Bool
  | .seq a, _, e => mE C a e
  | .rg1 a, _, e => match vCall e with
    | some (x, [ea], []) => decide (x = "range") && (mBlt C "range" && (noStar [ea] && mE C a ea))
    | _ => false
  | .rg2 a b, _, e => match vCall e with
    | some (x, [ea, eb], []) => decide (x = "range") && (mBlt C "range" && (noStar [ea, eb] && (mE C a ea && mE C b eb)))
    | _ => false
  | .rg3 a b c, _, e => match vCall e with
    | some (x, [ea, eb, ec], []) => decide (x = "range") && (mBlt C "range" && (noStar [ea, eb, ec] && (mE C a ea && (mE C b eb && mE C c ec))))
    | _ => false
  | .enm a, tg, e => match vTup tg, vCall e with
    | some _, some (x, [ea], []) => decide (x = "enumerate") && (mBlt C "enumerate" && (noStar [ea] && mE C a ea))
    | _, _ => false
  | .zip a b, tg, e => match vTup tg, vCall e with
    | some _, some (x, [ea, eb], []) => decide (x = "zip") && (mBlt C "zip" && (noStar [ea, eb] && (mE C a ea && mE C b eb)))
    | _, _ => false
end
section
variable {C : Ctx} {G : Prg} {k : Nat} {Ex : XK} {X : Cx}
theorem do_op (o : Op2) : OpR X (binaryOp (opO o)) (lift2 X.K (opR o)) := by
  cases o
  · exact do_add
  · exact do_sub
  · exact do_mul
  · exact do_fdiv
  · exact do_mod
  · exact do_pow
  · exact do_addM
theorem do_cmp (ok : COk C G k Ex X) (c : CmpOp) : OpR X (compareOp c) (lift2 X.K (cmpR c)) := by
  cases c
  · exact do_eq ok.room.units
  · exact do_ne ok.room.units
  · exact do_lt
  · exact do_le
  · exact do_gt
  · exact do_ge
  · exact do_is
  · exact do_isn
  · exact do_in
  · exact do_nin
theorem not1 {b : Bool} (h : (!b) = true) : b = false := by cases b <;> first | rfl | cases h
theorem emp1 {α : Type} {l : List α} (h : l.isEmpty = true) : l = [] := List.isEmpty_iff.mp h
theorem pe_rest {o : BoolOp} {y : Expr} {r : List Expr} {p : Pos} {t : TE} (h : PE X (restB o y r p) t) : PE X (.BoolOp o (y :: r) p) t := by
  cases r with
  | nil => exact pe_one h
  | cons => exact h
def isBoolE : Expr → Bool
  | .BoolOp _ _ _ => true
  | _ => false
structure PTW (X : Cx) (e : Expr) (t : TT) : Prop where
  pt : PT X e t
  pw : isBoolE e = true → PW X e t
theorem pw_restA {y : Expr} {r : List Expr} {p : Pos} {t : TT} (h : PTW X (restB .And y r p) t) : PW X (.BoolOp .And (y :: r) p) t := by
  cases r with
  | nil => exact pw_and1 h.pt
  | cons => exact h.pw rfl
theorem pw_restO {y : Expr} {r : List Expr} {p : Pos} {t : TT} (h : PTW X (restB .Or y r p) t) : PW X (.BoolOp .Or (y :: r) p) t := by
  cases r with
  | nil => exact pw_or1 h.pt
  | cons => exact h.pw rfl
theorem PTW.of {e : Expr} {t : TT} (h : PT X e t) (n : isBoolE e = false) : PTW X e t := ⟨h, fun z => by rw [n] at z; cases z⟩
theorem pa_all {t : TA} {es : List Expr} (h : PA X es t) : PA X es t := h
/-! ### the soundness of the walk -/
theorem nonE_eq {l : E} (h : isNonE l = true) : l = .non := by cases l <;> first | rfl | cases h
theorem do_bound {l : E} {el : Option Expr} (hm : (match el with
      | none => isNonE l
      | some x => !(isNonE l) && mE C l x) = true) (h : ∀ x, el = some x → mE C l x = true → PE X x (tD X.K Ex (wpE G l))) : PO X el (tDo X.K Ex fun ρ h Q Xd => wpE G l ρ h (fun y h2 => match sizeOpt (isNonE l) y with
      | some lo => Q lo h2
      | none => False) Xd) := by
  cases el with
  | none =>
    have e := nonE_eq hm
    subst e
    exact do_noPart
  | some x =>
    obtain ⟨h1, h2⟩ := and2 hm
    have h1 := not1 h1
    refine (do_part (h x rfl h2)).weak fun σ H Q ⟨ρ, h, Qd, Ed, re, hr, t, c, cx⟩ => ⟨ρ, h, Qd, Ed, re, hr, ?_, c, cx⟩
    rw [h1] at t
    have e : (fun (y : D) (h2 : Hd) => (match sizeOpt false y with
      | some lo => Qd lo h2
      | none => False)) = fun (d : D) (h1 : Hd) => (match d with | .int i => Qd (some i) h1 | _ => False) := by
      funext y h2
      cases y <;> rfl
    exact e ▸ t
theorem mEs_star {C : Ctx} {as : Es} {es : List Expr} (h : mEs C as es = true) : noStar es = true := by
  cases as with
  | nil => rw [mEs] at h; rw [emp1 h]; rfl
  | cons a r =>
    cases es with
    | nil => rfl
    | cons e es => rw [mEs] at h; exact (and2 h).1
theorem mEs_nil {C : Ctx} {as : Es} (h : mEs C as [] = true) : as = .nil := by
  cases as with
  | nil => rfl
  | cons a r => rw [mEs] at h; cases h
theorem pt_false {e : Expr} : PTW X e (tDt X.K Ex fun _ _ _ _ => False) :=
  ⟨⟨fun _ _ _ _ _ _ ⟨_, _, _, _, _, _, t, _⟩ => t.elim⟩, fun _ => ⟨fun _ _ _ _ _ _ _ ⟨_, _, _, _, _, _, t, _⟩ => t.elim⟩⟩
theorem plain_pt {e : Expr} {T : TD} {U : TDt} (h : PE X e (tD X.K Ex T)) (p : plainT e = true) (w : ∀ ρ h Q Xd, U ρ h Q Xd → T ρ h (fun x h1 => truQ x h1 fun k => Q k h1) Xd) : PTW X e (tDt X.K Ex U) :=
  ⟨(d_truth h p).weak fun σ H Q ⟨ρ, h, Qd, Ed, re, hr, t, c, cx⟩ => ⟨ρ, h, Qd, Ed, re, hr, w _ _ _ _ t, c, cx⟩, fun z => by cases e <;> first | (cases z; done) | (cases p; done)⟩
theorem both {e : Expr} {T : TD} {U : TDt} (h : PE X e (tD X.K Ex T)) (p : plainT e = true) (w : ∀ ρ h Q Xd, U ρ h Q Xd → T ρ h (fun x h1 => truQ x h1 fun k => Q k h1) Xd) : PE X e (tD X.K Ex T) ∧ PTW X e (tDt X.K Ex U) := ⟨h, plain_pt h p w⟩
theorem isi_tru {t : Ty} {Q : Bool → Hd → Prop} : (fun d h => isiR t d h (blQ Q)) = fun d h => isiR t d h (fun x h1 => truQ x h1 fun k => Q k h1) := by
  funext d h
  unfold isiR
  split <;> rfl
mutual
theorem mE_ok : ∀ (a : E) (e : Expr) {C : Ctx} {Ex : XK} {X : Cx}, COk C G k Ex X → mE C a e = true → PE X e (tD X.K Ex (wpE G a)) ∧ PTW X e (tDt X.K Ex (wpT G a))
  | .non, e, C, Ex, X, ok, h => by
    rw [mE] at h
    obtain ⟨j, p, rfl⟩ := vConst_eq (of_decide_eq_true h)
    exact both (d_const pe_non fun _ _ => .non) rfl fun _ _ _ _ q => q
  | .bl b, e, C, Ex, X, ok, h => by
    rw [mE] at h
    obtain ⟨j, p, rfl⟩ := vConst_eq (of_decide_eq_true h)
    exact both (d_const pe_bl fun _ _ => .bl b) rfl fun _ _ _ _ q => q
  | .int i, e, C, Ex, X, ok, h => by
    rw [mE] at h
    obtain ⟨j, p, rfl⟩ := vConst_eq (of_decide_eq_true h)
    exact both (d_const pe_int fun _ _ => .int i) rfl fun _ _ _ _ q => q
  | .str x, e, C, Ex, X, ok, h => by
    rw [mE] at h
    obtain ⟨j, p, rfl⟩ := vConst_eq (of_decide_eq_true h)
    exact both (d_const pe_str fun _ _ => .str x) rfl fun _ _ _ _ q => q
  | .loc i, e, C, Ex, X, ok, h => by
    rw [mE] at h
    split at h
    · rename_i x ev
      obtain ⟨p, rfl⟩ := vName_eq ev
      exact both (d_loc ok h) rfl fun _ _ _ _ q => q
    · cases h
  | .glo i, e, C, Ex, X, ok, h => by
    rw [mE] at h
    split at h
    · rename_i x ev
      obtain ⟨p, rfl⟩ := vName_eq ev
      exact both (d_glo ok h) rfl fun _ _ _ _ q => q
    · cases h
  | .op o a b, e, C, Ex, X, ok, h => by
    rw [mE] at h
    split at h
    · rename_i ea oo eb ev
      obtain ⟨p, rfl⟩ := vBin_eq ev
      obtain ⟨g1, r2⟩ := and2 h
      obtain ⟨g2, r3⟩ := and2 r2
      have d1 := of_decide_eq_true g1
      subst d1
      exact both (d_op (do_op o) (mE_ok a ea ok g2).1 (mE_ok b eb ok r3).1) rfl fun _ _ _ _ q => q
    · cases h
  | .neg a, e, C, Ex, X, ok, h => by
    rw [mE] at h
    split at h
    · rename_i u ea ev
      obtain ⟨p, rfl⟩ := vUn_eq ev
      obtain ⟨g1, r2⟩ := and2 h
      have d1 := of_decide_eq_true g1
      subst d1
      exact ⟨d_neg (mE_ok a ea ok r2).1, pt_false⟩
    · cases h
  | .cmp c a b, e, C, Ex, X, ok, h => by
    rw [mE] at h
    split at h
    · rename_i ea o eb ev
      obtain ⟨p, rfl⟩ := vCmp_eq ev
      obtain ⟨g1, r2⟩ := and2 h
      obtain ⟨g2, r3⟩ := and2 r2
      obtain ⟨g3, r4⟩ := and2 r3
      have d1 := of_decide_eq_true g1
      subst d1
      exact ⟨d_cmp (do_cmp ok o) (mE_ok a ea ok g3).1 (mE_ok b eb ok r4).1 (not1 g2), .of (d_cmpT (do_cmp ok o) (mE_ok a ea ok g3).1 (mE_ok b eb ok r4).1 (not1 g2)) rfl⟩
    · cases h
  | .chn c c' a b d, e, C, Ex, X, ok, h => by
    rw [mE] at h
    split at h
    · rename_i ea o eb o' ed ev
      obtain ⟨p, rfl⟩ := vChn_eq ev
      obtain ⟨g1, r2⟩ := and2 h
      obtain ⟨g2, r3⟩ := and2 r2
      obtain ⟨g3, r4⟩ := and2 r3
      obtain ⟨g4, r5⟩ := and2 r4
      obtain ⟨g5, r6⟩ := and2 r5
      have d1 := of_decide_eq_true g1
      have d2 := of_decide_eq_true g2
      subst d1 d2
      exact ⟨d_chn (do_cmp ok o) (do_cmp ok o') (mE_ok a ea ok g4).1 (mE_ok b eb ok g5).1 (mE_ok d ed ok r6).1 (not1 g3), .of (d_chnT (do_cmp ok o) (do_cmp ok o') (mE_ok a ea ok g4).1 (mE_ok b eb ok g5).1 (mE_ok d ed ok r6).1 (not1 g3)) rfl⟩
    · cases h
  | .andE a b, e, C, Ex, X, ok, h => by
    rw [mE] at h
    split at h
    · rename_i o x y r p ev
      have ev := vBool_eq ev
      subst ev
      obtain ⟨g1, r2⟩ := and2 h
      obtain ⟨g2, r3⟩ := and2 r2
      have d1 := of_decide_eq_true g1
      subst d1
      have pw := d_andW (mE_ok a x ok g2).2.pt (pw_restA (mE_ok b _ ok r3).2)
      exact ⟨d_and (mE_ok a x ok g2).1 (pe_rest (mE_ok b _ ok r3).1), pw.pt, fun _ => pw⟩
    · cases h
  | .orE a b, e, C, Ex, X, ok, h => by
    rw [mE] at h
    split at h
    · rename_i o x y r p ev
      have ev := vBool_eq ev
      subst ev
      obtain ⟨g1, r2⟩ := and2 h
      obtain ⟨g2, r3⟩ := and2 r2
      have d1 := of_decide_eq_true g1
      subst d1
      have pw := d_orW (mE_ok a x ok g2).2.pt (pw_restO (mE_ok b _ ok r3).2)
      exact ⟨d_or (mE_ok a x ok g2).1 (pe_rest (mE_ok b _ ok r3).1), pw.pt, fun _ => pw⟩
    · cases h
  | .notE a, e, C, Ex, X, ok, h => by
    rw [mE] at h
    split at h
    · rename_i u ea ev
      obtain ⟨p, rfl⟩ := vUn_eq ev
      obtain ⟨g1, r2⟩ := and2 h
      have d1 := of_decide_eq_true g1
      subst d1
      exact ⟨d_not (mE_ok a ea ok r2).1, .of (d_notT (mE_ok a ea ok r2).2.pt) rfl⟩
    · cases h
  | .ife c a b, e, C, Ex, X, ok, h => by
    rw [mE] at h
    split at h
    · rename_i ec ea eb ev
      obtain ⟨p, rfl⟩ := vIf_eq ev
      obtain ⟨g1, r2⟩ := and2 h
      obtain ⟨g2, r3⟩ := and2 r2
      exact ⟨d_ife (mE_ok c ec ok g1).2.pt (mE_ok a ea ok g2).1 (mE_ok b eb ok r3).1, pt_false⟩
    · cases h
  | .tup es, e, C, Ex, X, ok, h => by
    rw [mE] at h
    split at h
    · rename_i xs ev
      obtain ⟨kk, p, rfl⟩ := vTup_eq ev
      exact ⟨d_tup (mEs_ok es xs ok h), pt_false⟩
    · cases h
  | .lst m es, e, C, Ex, X, ok, h => by
    rw [mE] at h
    split at h
    · rename_i xs ev
      obtain ⟨p, rfl⟩ := vLst_eq ev
      exact ⟨d_lst (mEs_ok es xs ok h), pt_false⟩
    · cases h
  | .ix a i, e, C, Ex, X, ok, h => by
    rw [mE] at h
    split at h
    · rename_i ea ei ev
      obtain ⟨p, rfl⟩ := vSub_eq ev
      obtain ⟨g1, r2⟩ := and2 h
      obtain ⟨g2, r3⟩ := and2 r2
      exact both (d_ix (mE_ok a ea ok g2).1 (mE_ok i ei ok r3).1 (not1 g1)) rfl fun _ _ _ _ q => q
    · cases h
  | .slc a l u, e, C, Ex, X, ok, h => by
    rw [mE] at h
    split at h
    · rename_i ea el eu ev
      obtain ⟨p, p2, rfl⟩ := vSlice_eq ev
      obtain ⟨g1, r2⟩ := and2 h
      obtain ⟨g2, r3⟩ := and2 r2
      exact ⟨d_slc (mE_ok a ea ok g1).1 (do_bound g2 fun x _ hx => (mE_ok l x ok hx).1) (do_bound r3 fun x _ hx => (mE_ok u x ok hx).1), pt_false⟩
    · cases h
  | .rev a, e, C, Ex, X, ok, h => by
    rw [mE] at h
    split at h
    · rename_i ea ev
      obtain ⟨p, p1, p2, p3, kk, rfl⟩ := vRev_eq ev
      exact ⟨d_rev (mE_ok a ea ok h).1, pt_false⟩
    · cases h
  | .bif b as, e, C, Ex, X, ok, h => by
    rw [mE] at h
    split at h
    · rename_i x xs ks ev
      obtain ⟨p, q, rfl⟩ := vCall_eq ev
      obtain ⟨g1, r2⟩ := and2 h
      obtain ⟨g2, r3⟩ := and2 r2
      obtain ⟨g3, r4⟩ := and2 r3
      obtain ⟨g4, r5⟩ := and2 r4
      have d1 := of_decide_eq_true g1
      have d3 := emp1 g3
      subst d1 d3
      cases xs with
      | nil => cases g4
      | cons e0 es0 =>
        exact both (d_bif (p := p) (pos := q) ok g2 (mEs_ok as _ ok r5) (mEs_star r5)) rfl fun _ _ _ _ q => q
    · cases h
  | .isi a t, e, C, Ex, X, ok, h => by
    rw [mE] at h
    split at h
    · rename_i x ea et ev
      obtain ⟨p, q, rfl⟩ := vCall_eq ev
      obtain ⟨g1, r2⟩ := and2 h
      obtain ⟨g2, r3⟩ := and2 r2
      obtain ⟨g3, r4⟩ := and2 r3
      obtain ⟨g4, r5⟩ := and2 r4
      obtain ⟨g5, r6⟩ := and2 r5
      have d1 := of_decide_eq_true g1
      subst d1
      obtain ⟨p2, rfl⟩ := vName_eq (of_decide_eq_true g2)
      exact both (d_isi ok g3 g4 (mE_ok a ea ok r6).1 g5) rfl fun ρ h Q Xd z => by
        have z : wpE G a ρ h (fun d h => isiR t d h (blQ Q)) Xd := z
        rw [isi_tru] at z
        exact z
    · cases h
  | .call f s as kas, e, C, Ex, X, ok, h => by
    rw [mE] at h
    split at h
    · rename_i x xs ks ev
      obtain ⟨p, q, rfl⟩ := vCall_eq ev
      split at h
      · rename_i i hf
        split at h
        · rename_i sh hsh
          obtain ⟨g1, r2⟩ := and2 h
          obtain ⟨g2, r3⟩ := and2 r2
          obtain ⟨g3, r4⟩ := and2 r3
          obtain ⟨g4, r5⟩ := and2 r4
          obtain ⟨g5, r6⟩ := and2 r5
          cases xs with
          | nil =>
            have e1 := mEs_nil g5
            subst e1
            have := d_call0 (p := p) (pos := q) (Tk := wpA G kas) ok hf hsh (of_decide_eq_true g1) g2 g3 (of_decide_eq_true g4) (mK_ok kas ks ok r6)
            skip
            exact ⟨this, plain_pt this rfl fun _ _ _ _ q => q⟩
          | cons e0 es0 =>
            exact both (d_call (p := p) (pos := q) ok hf hsh (of_decide_eq_true g1) g2 g3 (of_decide_eq_true g4) (mEs_ok as _ ok g5) (mK_ok kas ks ok r6) (mEs_star g5)) rfl fun _ _ _ _ q => q
        · cases h
      · cases h
    · cases h
  | .mth o m as, e, C, Ex, X, ok, h => by
    rw [mE] at h
    split at h
    · rename_i eo x xs ks ev
      obtain ⟨p, q, rfl⟩ := vMeth_eq ev
      obtain ⟨g1, r2⟩ := and2 h
      obtain ⟨g2, r3⟩ := and2 r2
      obtain ⟨g3, r4⟩ := and2 r3
      obtain ⟨g4, r5⟩ := and2 r4
      obtain ⟨g5, r6⟩ := and2 r5
      obtain ⟨g6, r7⟩ := and2 r6
      obtain ⟨g7, r8⟩ := and2 r7
      have d1 := of_decide_eq_true g1
      have d2 := emp1 g2
      subst d1 d2
      cases xs with
      | nil => cases g3
      | cons e0 es0 => exact ⟨d_mth (mE_ok o eo ok g7).1 (mEs_ok as _ ok r8) (mEs_star r8) g4 (of_decide_eq_true g5) g6, pt_false⟩
    · cases h
  | .comp m own b t it cs, e, C, Ex, X, ok, h => by
    rw [mE] at h
    split at h
    · rename_i elt et ei ecs scope ev
      obtain ⟨p, rfl⟩ := vComp_eq ev
      obtain ⟨g1, r2⟩ := and2 h
      obtain ⟨g2, r3⟩ := and2 r2
      obtain ⟨g3, r4⟩ := and2 r3
      obtain ⟨g4, r5⟩ := and2 r4
      obtain ⟨g5, r6⟩ := and2 r5
      obtain ⟨g6, r7⟩ := and2 r6
      have hk := (blkOk_by g1).kind
      have hsl : ∀ i ∈ t.sl, i ∈ (ownN C.N own).map (·.2) := by
        rw [ownN_snd]
        intro i hi
        have := List.all_eq_true.mp g2 i hi
        simpa using this
      have := d_comp (m := m) (pos := p) ok (mI_ok it et ei ok g4) g1 (fun s H A cl fp => mG_ok t et (ok.blk hk s H A cl fp) g5) (fun s H A cl fp => mC_ok cs ecs (ok.blk hk s H A cl fp) g6) (fun s H A cl fp => (mE_ok b elt (ok.blk hk s H A cl fp) r7).1) hsl g3
      rw [ownN_snd] at this
      exact ⟨this, pt_false⟩
    · cases h
  | .frz a, e, C, Ex, X, ok, h => by
    rw [mE] at h
    exact ⟨de_frz (mE_ok a e ok h).1, pt_false⟩
theorem mEs_ok : ∀ (as : Es) (es : List Expr) {C : Ctx} {Ex : XK} {X : Cx}, COk C G k Ex X → mEs C as es = true → PA X es (tDs X.K Ex (wpA G as))
  | .nil, es, C, Ex, X, ok, h => by
    rw [mEs] at h
    rw [emp1 h]
    exact da_nil
  | .cons a r, es, C, Ex, X, ok, h => by
    skip
    cases es with
    | nil => cases h
    | cons e es =>
      rw [mEs] at h
      obtain ⟨g1, r2⟩ := and2 h
      obtain ⟨g2, r3⟩ := and2 r2
      exact da_cons (mE_ok a e ok g2).1 (mEs_ok r es ok r3) g1
theorem mK_ok : ∀ (as : Es) (es : List Keyword) {C : Ctx} {Ex : XK} {X : Cx}, COk C G k Ex X → mEs C as (kwE es) = true → PK X es (tDs X.K Ex (wpA G as))
  | .nil, es, C, Ex, X, ok, h => by
    skip
    cases es with
    | nil => exact dk_nil
    | cons e es =>
      obtain ⟨nm, e, kp⟩ := e
      cases h
  | .cons a r, es, C, Ex, X, ok, h => by
    skip
    cases es with
    | nil => cases h
    | cons e es =>
      obtain ⟨nm, e, kp⟩ := e
      have h : mEs C (.cons a r) (e :: kwE es) = true := h
      rw [mEs] at h
      obtain ⟨g1, r2⟩ := and2 h
      obtain ⟨g2, r3⟩ := and2 r2
      exact dk_cons (mE_ok a e ok g2).1 (mK_ok r es ok r3)
theorem mC_ok : ∀ (as : Es) (es : List Expr) {C : Ctx} {Ex : XK} {X : Cx}, COk C G k Ex X → mC C as es = true → PTs X es (tDt X.K Ex (wpC G as))
  | .nil, es, C, Ex, X, ok, h => by
    rw [mC] at h
    rw [emp1 h]
    exact ⟨fun pins s σ H Q I ⟨ρ, h, Qd, Ed, re, hr, t, c, cx⟩ => pts_nil.run pins s σ H Q I (c _ _ _ Frm.refl hr t)⟩
  | .cons a r, es, C, Ex, X, ok, h => by
    skip
    cases es with
    | nil => cases h
    | cons e es =>
      cases es with
      | nil => rw [mC] at h; exact pts_one (mE_ok a _ ok h).2.pt
      | cons => cases h
theorem mG_ok : ∀ (t : Tg) (e : Expr) {C : Ctx} {Ex : XK} {X : Cx}, COk C G k Ex X → mG C t e = true → PG X e (tDG X.K Ex t.sl (wpG G t))
  | .nm i, e, C, Ex, X, ok, h => by
    rw [mG] at h; rw [Tg.sl]
    split at h
    · rename_i x ev
      obtain ⟨p, rfl⟩ := vName_eq ev
      exact dg_nm ok h
    · cases h
  | .tp ts, e, C, Ex, X, ok, h => by
    rw [mG] at h; rw [Tg.sl]
    split at h
    · rename_i es ev
      obtain ⟨kk, p, rfl⟩ := vTup_eq ev
      obtain ⟨g1, r2⟩ := and2 h
      obtain ⟨g2, r3⟩ := and2 r2
      exact dg_tp ok (mGs_ok ts es ok r3) g1 (of_decide_eq_true g2)
    · cases h
  | .sb a i, e, C, Ex, X, ok, h => by
    rw [mG] at h; rw [Tg.sl]
    split at h
    · rename_i ea ei ev
      obtain ⟨p, rfl⟩ := vSub_eq ev
      obtain ⟨g1, r2⟩ := and2 h
      obtain ⟨g2, r3⟩ := and2 r2
      exact dg_sb (mE_ok a ea ok g2).1 (mE_ok i ei ok r3).1 (not1 g1)
    · cases h
theorem mGs_ok : ∀ (ts : Tgs) (es : List Expr) {C : Ctx} {Ex : XK} {X : Cx}, COk C G k Ex X → mGs C ts es = true → PGs X es (tDGs X.K Ex ts.sl (wpGs G ts))
  | .nil, es, C, Ex, X, ok, h => by
    rw [mGs] at h; rw [Tgs.sl]
    rw [emp1 h]
    exact dgs_nil
  | .cons t r, es, C, Ex, X, ok, h => by
    rw [Tgs.sl]
    cases es with
    | nil => cases h
    | cons e es =>
      rw [mGs] at h
      obtain ⟨g1, r2⟩ := and2 h
      obtain ⟨g2, r3⟩ := and2 r2
      exact dgs_cons (mG_ok t e ok g2) (mGs_ok r es ok r3) g1
theorem mI_ok : ∀ (it : It) (tg e : Expr) {C : Ctx} {Ex : XK} {X : Cx}, COk C G k Ex X → mI C it tg e = true → PI X tg e (iD X.K Ex (wpI G it))
  | .seq a, tg, e, C, Ex, X, ok, h => by
    rw [mI] at h
    exact di_seq (mE_ok a e ok h).1
  | .rg1 a, tg, e, C, Ex, X, ok, h => by
    rw [mI] at h
    split at h
    · rename_i x ea ev
      obtain ⟨p, q, rfl⟩ := vCall_eq ev
      obtain ⟨g1, r2⟩ := and2 h
      obtain ⟨g2, r3⟩ := and2 r2
      obtain ⟨g3, r4⟩ := and2 r3
      have d1 := of_decide_eq_true g1
      subst d1
      exact di_rg1 ok g2 (mE_ok a ea ok r4).1 g3
    · cases h
  | .rg2 a b, tg, e, C, Ex, X, ok, h => by
    rw [mI] at h
    split at h
    · rename_i x ea eb ev
      obtain ⟨p, q, rfl⟩ := vCall_eq ev
      obtain ⟨g1, r2⟩ := and2 h
      obtain ⟨g2, r3⟩ := and2 r2
      obtain ⟨g3, r4⟩ := and2 r3
      obtain ⟨g4, r5⟩ := and2 r4
      have d1 := of_decide_eq_true g1
      subst d1
      exact di_rg2 ok g2 (mE_ok a ea ok g4).1 (mE_ok b eb ok r5).1 g3
    · cases h
  | .rg3 a b c, tg, e, C, Ex, X, ok, h => by
    rw [mI] at h
    split at h
    · rename_i x ea eb ec ev
      obtain ⟨p, q, rfl⟩ := vCall_eq ev
      obtain ⟨g1, r2⟩ := and2 h
      obtain ⟨g2, r3⟩ := and2 r2
      obtain ⟨g3, r4⟩ := and2 r3
      obtain ⟨g4, r5⟩ := and2 r4
      obtain ⟨g5, r6⟩ := and2 r5
      have d1 := of_decide_eq_true g1
      subst d1
      exact di_rg3 ok g2 (mE_ok a ea ok g4).1 (mE_ok b eb ok g5).1 (mE_ok c ec ok r6).1 g3
    · cases h
  | .enm a, tg, e, C, Ex, X, ok, h => by
    rw [mI] at h
    split at h
    · rename_i ts x ea et ev
      obtain ⟨p, q, rfl⟩ := vCall_eq ev
      obtain ⟨kk, p2, rfl⟩ := vTup_eq et
      obtain ⟨g1, r2⟩ := and2 h
      obtain ⟨g2, r3⟩ := and2 r2
      obtain ⟨g3, r4⟩ := and2 r3
      have d1 := of_decide_eq_true g1
      subst d1
      exact di_enm ok g2 (mE_ok a ea ok r4).1 g3
    · cases h
  | .zip a b, tg, e, C, Ex, X, ok, h => by
    rw [mI] at h
    split at h
    · rename_i ts x ea eb et ev
      obtain ⟨p, q, rfl⟩ := vCall_eq ev
      obtain ⟨kk, p2, rfl⟩ := vTup_eq et
      obtain ⟨g1, r2⟩ := and2 h
      obtain ⟨g2, r3⟩ := and2 r2
      obtain ⟨g3, r4⟩ := and2 r3
      obtain ⟨g4, r5⟩ := and2 r4
      have d1 := of_decide_eq_true g1
      subst d1
      exact di_zip ok g2 (mE_ok a ea ok g4).1 (mE_ok b eb ok r5).1 g3
    · cases h
end
end
end Y
namespace Y
open PySem PySem.Spec PyProof.Rows L2

/-! ### statements against the text -/
def vAsg : Stmt → Option (Expr × Expr)
  | .Assign [t] e _ => some (t, e)
  | _ => none
theorem vAsg_eq {s : Stmt} {t e : Expr} (h : vAsg s = some (t, e)) : ∃ p, s = .Assign [t] e p := by
  unfold vAsg at h
  split at h <;> cases h
  exact ⟨_, rfl⟩
def vPar : Stmt → Option (List Expr × List Expr × Nat × Pos × Nat × Pos)
  | .Assign [.Tuple ts k1 p1] (.Tuple vs k2 p2) _ => some (ts, vs, k1, p1, k2, p2)
  | _ => none
theorem vPar_eq {s : Stmt} {ts vs : List Expr} {k1 k2 : Nat} {p1 p2 : Pos} (h : vPar s = some (ts, vs, k1, p1, k2, p2)) : ∃ p, s = .Assign [.Tuple ts k1 p1] (.Tuple vs k2 p2) p := by
  unfold vPar at h
  split at h <;> cases h
  exact ⟨_, rfl⟩
def vNm : Expr → Option (Str × Pos)
  | .Name x p => some (x, p)
  | _ => none
theorem vNm_eq {e : Expr} {x : Str} {p : Pos} (h : vNm e = some (x, p)) : e = .Name x p := by
  cases e <;> first | (cases h; done) | (cases h; rfl)
def vAug : Stmt → Option (Str × Operator × Expr)
  | .AugAssign (.Name x _) o e _ => some (x, o, e)
  | _ => none
theorem vAug_eq {s : Stmt} {x : Str} {o : Operator} {e : Expr} (h : vAug s = some (x, o, e)) : ∃ p q, s = .AugAssign (.Name x p) o e q := by
  unfold vAug at h
  split at h <;> cases h
  exact ⟨_, _, rfl⟩
def vAugS : Stmt → Option (Expr × Expr × Operator × Expr)
  | .AugAssign (.Subscript a i _) o e _ => some (a, i, o, e)
  | _ => none
theorem vAugS_eq {s : Stmt} {a i : Expr} {o : Operator} {e : Expr} (h : vAugS s = some (a, i, o, e)) : ∃ p q, s = .AugAssign (.Subscript a i p) o e q := by
  unfold vAugS at h
  split at h <;> cases h
  exact ⟨_, _, rfl⟩
def vIfS : Stmt → Option (Expr × List Stmt × List Stmt)
  | .If c a b _ => some (c, a, b)
  | _ => none
theorem vIfS_eq {s : Stmt} {c : Expr} {a b : List Stmt} (h : vIfS s = some (c, a, b)) : ∃ p, s = .If c a b p := by
  unfold vIfS at h
  split at h <;> cases h
  exact ⟨_, rfl⟩
def vWhl : Stmt → Option (Expr × List Stmt)
  | .While c b [] _ => some (c, b)
  | _ => none
theorem vWhl_eq {s : Stmt} {c : Expr} {b : List Stmt} (h : vWhl s = some (c, b)) : ∃ p, s = .While c b [] p := by
  unfold vWhl at h
  split at h <;> cases h
  exact ⟨_, rfl⟩
def vFor : Stmt → Option (Expr × Expr × List Stmt)
  | .For t i b [] _ => some (t, i, b)
  | _ => none
theorem vFor_eq {s : Stmt} {t i : Expr} {b : List Stmt} (h : vFor s = some (t, i, b)) : ∃ p, s = .For t i b [] p := by
  unfold vFor at h
  split at h <;> cases h
  exact ⟨_, rfl⟩
def vRet : Stmt → Option (Option Expr)
  | .Return e _ => some e
  | _ => none
theorem vRet_eq {s : Stmt} {e : Option Expr} (h : vRet s = some e) : ∃ p, s = .Return e p := by
  unfold vRet at h
  split at h <;> cases h
  exact ⟨_, rfl⟩
def vExp : Stmt → Option Expr
  | .Expr e _ => some e
  | _ => none
theorem vExp_eq {s : Stmt} {e : Expr} (h : vExp s = some e) : ∃ p, s = .Expr e p := by
  unfold vExp at h
  split at h <;> cases h
  exact ⟨_, rfl⟩
def isPass : Stmt → Bool
  | .Pass _ => true
  | .Expr (.Constant (.str _) _ _) _ => true
  | _ => false
def isBrk : Stmt → Bool
  | .Break _ => true
  | _ => false
def isCnt : Stmt → Bool
  | .Continue _ => true
  | _ => false
def frzOf : S → Option Nat
  | .frz i => some i
  | _ => none
theorem frzOf_eq {s : S} {i : Nat} (h : frzOf s = some i) : s = .frz i := by cases s <;> first | (cases h; done) | (cases h; rfl)
def isNev : S → Bool
  | .never => true
  | _ => false
theorem isNev_eq {s : S} (h : isNev s = true) : s = .never := by cases s <;> first | (cases h; done) | rfl
def locB2 (C : Ctx) (i : Nat) (x : Str) : Bool := decide (C.N[i]? = some x) && decide (C.sc.names.lookup x = some .local)
/-- name = [.. for ..], stored at once -/
def mSetC (C : Ctx) : Tg → E → Expr → Expr → Bool
  | .nm i, .comp _ own b t it cs, tv, ev => match vNm tv, vComp ev with
    | some (x, p), some (elt, et, ei, ecs, scope) => mSet C i x && (decide (C.sc.names.lookup x = some .local) && (blkC C.N C.sc scope (ownN C.N own) && (t.sl.all (fun i => own.contains i) && (plainIt ei && (mI C it et ei && (mG (C.blk scope) t et && (mC (C.blk scope) cs ecs && mE (C.blk scope) b elt)))))))
    | _, _ => false
  | _, _, _, _ => false
mutual
def mS (C : Ctx) : S → Stmt → Bool
  | .asg t e, s => match vAsg s with
    | some (tv, ev) => (match swc C.sc ev tv with
      | true => mSetC C t e tv ev
      | false => okVal ev && (decide (swp C.sc tv ev = some none) && (noStar [tv] && (mE C e ev && mG C t tv))))
    | none => false
  | .par is es, s => match vPar s with
    | some (ts, vs, k1, p1, k2, p2) => (match is, ts.map vNm, vs with
      | [i, j], [some (x, px), some (y, py)], [a, b] => decide (i ≠ j) && (locB2 C i x && (locB2 C j y && (decide (swp C.sc (.Tuple ts k1 p1) (.Tuple vs k2 p2) = some (some [x, y])) && mEs C es vs)))
      | [i, j, l], [some (x, px), some (y, py), some (z, pz)], [a, b, c] => decide (i ≠ j ∧ i ≠ l ∧ j ≠ l) && (locB2 C i x && (locB2 C j y && (locB2 C l z && (decide (swp C.sc (.Tuple ts k1 p1) (.Tuple vs k2 p2) = some (some [x, y, z])) && mEs C es vs))))
      | _, _, _ => false)
    | none => false
  | .aug i o e, s => match vAug s with
    | some (x, oo, ev) => mSet C i x && (decide (opO o = oo) && mE C e ev)
    | none => false
  | .augS a i o e, s => match vAugS s with
    | some (ea, ei, oo, ev) => decide (opO o = oo) && (!(isSlice ei) && (mE C a ea && (mE C i ei && mE C e ev)))
    | none => false
  | .ifS c a b, s => match vIfS s with
    | some (ec, sa, sb) => mE C c ec && (mSs C a sa && mSs C b sb)
    | none => false
  | .whl c b, s => match vWhl s with
    | some (ec, sb) => mE C c ec && mSs C b sb
    | none => false
  | .forS t it b, s => match vFor s with
    | some (et, ei, sb) => plainIt ei && (mI C it et ei && (mG C t et && mSs C b sb))
    | none => false
  | .ret e, s => match vRet s with
    | some (some ev) => mE C e ev
    | _ => false
  | .retN, s => match vRet s with
    | some none => true
    | _ => false
  | .expr e, s => match vExp s with
    | some ev => isCall ev && mE C e ev
    | none => false
  | .pass, s => isPass s
  | .brk, s => isBrk s
  | .cnt, s => isCnt s
  | .never, _ => true
  | .frz _, _ => false
def mSs (C : Ctx) : Ss → List Stmt → Bool
  | .nil, sts => sts.isEmpty
  | .cons s r, sts => isNev s || (match frzOf s with
    | some _ => mSs C r sts
    | none => (match sts with
      | [] => false
      | st :: sts => mS C s st && mSs C r sts))
end
section
variable {G : Prg} {k : Nat}
theorem setC_ok {C : Ctx} {Ex : XK} {X : Cx} (ok : COk C G k Ex X) {t : Tg} {e : E} {tv ev : Expr} {p : Pos} (hs : swc C.sc ev tv = true) (h : mSetC C t e tv ev = true) : PS X (.Assign [tv] ev p) (tDS X.K Ex (wpS G (.asg t e))) := by
  cases t with
  | nm i =>
    cases e with
    | comp m own b t it cs =>
      unfold mSetC at h
      dsimp only at h
      split at h
      · rename_i x px elt et ei ecs scope e1 e2
        have e1 := vNm_eq e1
        subst e1
        obtain ⟨cp, rfl⟩ := vComp_eq e2
        obtain ⟨g1, r1⟩ := and2 h
        obtain ⟨g2, r2⟩ := and2 r1
        obtain ⟨g3, r3⟩ := and2 r2
        obtain ⟨g4, r4⟩ := and2 r3
        obtain ⟨g5, r5⟩ := and2 r4
        obtain ⟨g6, r6⟩ := and2 r5
        obtain ⟨g7, r7⟩ := and2 r6
        obtain ⟨g8, r8⟩ := and2 r7
        have hk := (blkOk_by g3).kind
        have hsl : ∀ i ∈ t.sl, i ∈ (ownN C.N own).map (·.2) := by
          rw [ownN_snd]
          intro i hi
          have := List.all_eq_true.mp g4 i hi
          simpa using this
        have := ds_setLc (m := m) (spos := p) ok g1 (of_decide_eq_true g2) (mI_ok it et ei ok g6) g3 (fun s H A cl fp => mG_ok t et (ok.blk hk s H A cl fp) g7) (fun s H A cl fp => mC_ok cs ecs (ok.blk hk s H A cl fp) g8) (fun s H A cl fp => (mE_ok b elt (ok.blk hk s H A cl fp) r8).1) hsl g5 hs
        rw [ownN_snd] at this
        exact this
      · cases h
    | _ => exact absurd h Bool.false_ne_true
  | _ => exact absurd h (by cases e <;> exact Bool.false_ne_true)
mutual
theorem mS_ok : ∀ (a : S) (s : Stmt) {C : Ctx} {Ex : XK} {X : Cx}, COk C G k Ex X → mS C a s = true → PS X s (tDS X.K Ex (wpS G a))
  | .asg t e, s, C, Ex, X, ok, h => by
    rw [mS] at h
    split at h
    · rename_i tv ev es
      obtain ⟨p, rfl⟩ := vAsg_eq es
      split at h
      · rename_i hs
        exact setC_ok ok hs h
      · rename_i hs
        obtain ⟨g1, r1⟩ := and2 h
        obtain ⟨g2, r2⟩ := and2 r1
        obtain ⟨g3, r3⟩ := and2 r2
        obtain ⟨g4, r4⟩ := and2 r3
        exact ds_asg ok (mE_ok e ev ok g4).1 (mG_ok t tv ok r4) g1 hs (of_decide_eq_true g2) g3
    · cases h
  | .par is es, s, C, Ex, X, ok, h => by
    rw [mS] at h
    split at h
    · rename_i ts vs k1 p1 k2 p2 ev
      obtain ⟨p, rfl⟩ := vPar_eq ev
      split at h
      · rename_i i j x px y py a b e1
        match ts, e1 with
        | [t1, t2], e1 =>
          have e1 : [vNm t1, vNm t2] = [some (x, px), some (y, py)] := e1
          injection e1 with q1 e1
          injection e1 with q2 e1
          have q1 := vNm_eq q1
          have q2 := vNm_eq q2
          subst q1 q2
          obtain ⟨g1, r1⟩ := and2 h
          obtain ⟨g2, r2⟩ := and2 r1
          obtain ⟨g3, r3⟩ := and2 r2
          obtain ⟨g4, r4⟩ := and2 r3
          obtain ⟨a1, a2⟩ := and2 g2
          obtain ⟨b1, b2⟩ := and2 g3
          exact ds_par ok (of_decide_eq_true a1) (of_decide_eq_true b1) (of_decide_eq_true g1) (of_decide_eq_true a2) (of_decide_eq_true b2) (mEs_ok es _ ok r4) (of_decide_eq_true g4)
        | [], e1 => simp at e1
        | [_], e1 => simp at e1
        | _ :: _ :: _ :: _, e1 => simp at e1
      · rename_i i j l x px y py z pz a b c e1
        match ts, e1 with
        | [t1, t2, t3], e1 =>
          have e1 : [vNm t1, vNm t2, vNm t3] = [some (x, px), some (y, py), some (z, pz)] := e1
          injection e1 with q1 e1
          injection e1 with q2 e1
          injection e1 with q3 e1
          have q1 := vNm_eq q1
          have q2 := vNm_eq q2
          have q3 := vNm_eq q3
          subst q1 q2 q3
          obtain ⟨g1, r1⟩ := and2 h
          obtain ⟨g2, r2⟩ := and2 r1
          obtain ⟨g3, r3⟩ := and2 r2
          obtain ⟨g4, r4⟩ := and2 r3
          obtain ⟨g5, r5⟩ := and2 r4
          obtain ⟨a1, a2⟩ := and2 g2
          obtain ⟨b1, b2⟩ := and2 g3
          obtain ⟨c1, c2⟩ := and2 g4
          have n := of_decide_eq_true g1
          exact ds_par3 ok (of_decide_eq_true a1) (of_decide_eq_true b1) (of_decide_eq_true c1) n.1 n.2.1 n.2.2 (of_decide_eq_true a2) (of_decide_eq_true b2) (of_decide_eq_true c2) (mEs_ok es _ ok r5) (of_decide_eq_true g5)
        | [], e1 => simp at e1
        | [_], e1 => simp at e1
        | [_, _], e1 => simp at e1
        | _ :: _ :: _ :: _ :: _, e1 => simp at e1
      · cases h
    · cases h
  | .aug i o e, s, C, Ex, X, ok, h => by
    rw [mS] at h
    split at h
    · rename_i x oo ev es
      obtain ⟨p, q, rfl⟩ := vAug_eq es
      obtain ⟨g1, r1⟩ := and2 h
      obtain ⟨g2, r2⟩ := and2 r1
      have d2 := of_decide_eq_true g2
      subst d2
      exact ds_aug ok g1 (mE_ok e ev ok r2).1
    · cases h
  | .augS a i o e, s, C, Ex, X, ok, h => by
    rw [mS] at h
    split at h
    · rename_i ea ei oo ev es
      obtain ⟨p, q, rfl⟩ := vAugS_eq es
      obtain ⟨g1, r1⟩ := and2 h
      obtain ⟨g2, r2⟩ := and2 r1
      obtain ⟨g3, r3⟩ := and2 r2
      obtain ⟨g4, r4⟩ := and2 r3
      have d1 := of_decide_eq_true g1
      subst d1
      exact ds_augS (mE_ok a ea ok g3).1 (mE_ok i ei ok g4).1 (mE_ok e ev ok r4).1 (not1 g2)
    · cases h
  | .ifS c a b, s, C, Ex, X, ok, h => by
    rw [mS] at h
    split at h
    · rename_i ec sa sb es
      obtain ⟨p, rfl⟩ := vIfS_eq es
      obtain ⟨g1, r1⟩ := and2 h
      obtain ⟨g2, r2⟩ := and2 r1
      exact ds_if (mE_ok c ec ok g1).2.pt (mSs_ok a sa ok g2) (mSs_ok b sb ok r2)
    · cases h
  | .whl c b, s, C, Ex, X, ok, h => by
    rw [mS] at h
    split at h
    · rename_i ec sb es
      obtain ⟨p, rfl⟩ := vWhl_eq es
      obtain ⟨g1, r1⟩ := and2 h
      exact ds_while ok (mE_ok c ec ok g1).2.pt (mSs_ok b sb ok r1)
    · cases h
  | .forS t it b, s, C, Ex, X, ok, h => by
    rw [mS] at h
    split at h
    · rename_i et ei sb es
      obtain ⟨p, rfl⟩ := vFor_eq es
      obtain ⟨g1, r1⟩ := and2 h
      obtain ⟨g2, r2⟩ := and2 r1
      obtain ⟨g3, r3⟩ := and2 r2
      exact ds_for ok (mI_ok it et ei ok g2) (mG_ok t et ok g3) (mSs_ok b sb ok r3) g1
    · cases h
  | .ret e, s, C, Ex, X, ok, h => by
    rw [mS] at h
    split at h
    · rename_i ev es
      obtain ⟨p, rfl⟩ := vRet_eq es
      exact ds_ret (mE_ok e ev ok h).1
    · cases h
  | .retN, s, C, Ex, X, ok, h => by
    rw [mS] at h
    split at h
    · rename_i es
      obtain ⟨p, rfl⟩ := vRet_eq es
      exact ds_retN
    · cases h
  | .expr e, s, C, Ex, X, ok, h => by
    rw [mS] at h
    split at h
    · rename_i ev es
      obtain ⟨p, rfl⟩ := vExp_eq es
      obtain ⟨g1, r1⟩ := and2 h
      exact ds_expr (mE_ok e ev ok r1).1 g1
    · cases h
  | .pass, s, C, Ex, X, ok, h => by
    rw [mS] at h
    unfold isPass at h
    split at h
    · exact ds_pass
    · exact ps_doc.weak fun N σ H ⟨ρ, h, Nd, Ed, re, hr, t, c, cx⟩ => c.nx ρ h σ H Frm.refl hr re t
    · cases h
  | .brk, s, C, Ex, X, ok, h => by
    rw [mS] at h
    cases s <;> first | exact ds_brk | (cases h; done)
  | .cnt, s, C, Ex, X, ok, h => by
    rw [mS] at h
    cases s <;> first | exact ds_cnt | (cases h; done)
  | .never, s, C, Ex, X, ok, h => by
    exact ds_never
  | .frz i, s, C, Ex, X, ok, h => by
    rw [mS] at h; cases h
theorem mSs_ok : ∀ (a : Ss) (s : List Stmt) {C : Ctx} {Ex : XK} {X : Cx}, COk C G k Ex X → mSs C a s = true → PSs X s (tDS X.K Ex (wpSs G a))
  | .nil, s, C, Ex, X, ok, h => by
    rw [mSs] at h
    rw [emp1 h]
    exact dss_nil
  | .cons a r, s, C, Ex, X, ok, h => by
    cases hn : isNev a with
    | true =>
      have e := isNev_eq hn
      subst e
      refine dss_never fun ρ h N Xd q => ?_
      exact q
    | false =>
      cases hf : frzOf a with
      | some i =>
        have e := frzOf_eq hf
        subst e
        have h : mSs C r s = true := by
          cases s with
          | nil => rw [mSs] at h; simpa [isNev, frzOf] using h
          | cons => rw [mSs] at h; simpa [isNev, frzOf] using h
        have := dss_frz (i := i) (mSs_ok r s ok h)
        exact this
      | none =>
        cases s with
        | nil => rw [mSs, hn, hf] at h; cases h
        | cons st sts =>
          rw [mSs, hn, hf] at h
          have h : (mS C a st && mSs C r sts) = true := h
          obtain ⟨g1, r1⟩ := and2 h
          have := dss_cons (mS_ok a st ok g1) (mSs_ok r sts ok r1)
          exact this
end
end
end Y
namespace Y
open PySem PySem.Spec PyProof.Rows L2

/-! ### constants of the module, by data -/
def leafB : D → Value → Bool
  | .non, .none => true
  | .bl b, .bool c => decide (b = c)
  | .int i, .int j _ => decide (i = j)
  | .str x, .str y _ => decide (x = y)
  | _, _ => false
theorem leaf_ok {K : PySem.W.Frag} {d : D} {u : Value} (e : leafB d u = true) : ∃ v, RelV v u ∧ ∀ H h, Rep K H h d v := by
  unfold leafB at e
  split at e
  · exact ⟨.non, rfl, fun _ _ => .non⟩
  · exact ⟨.bl _, by rw [of_decide_eq_true e]; rfl, fun _ _ => .bl _⟩
  · exact ⟨.int _, by rw [of_decide_eq_true e]; exact ⟨_, rfl⟩, fun _ _ => .int _⟩
  · exact ⟨.str _, by rw [of_decide_eq_true e]; exact ⟨_, rfl⟩, fun _ _ => .str _⟩
  · cases e
def asTup (K : PySem.W.Frag) : Value → Option (List Value)
  | .ref a => match K.lookup a with
    | some ⟨.type c, _, .seq its _, _⟩ => if c = "tuple" ∧ its.size ≤ sizeLine then some its.toList else none
    | _ => none
  | _ => none
theorem asTup_ok {K : PySem.W.Frag} {u : Value} {us : List Value} (e : asTup K u = some us) : ∃ a, u = .ref a ∧ ∀ vs, Vals vs us → Kn K a vs := by
  unfold asTup at e
  split at e
  · rename_i a
    split at e
    · rename_i c dx its n sl q
      split at e
      · rename_i hc
        cases e
        exact ⟨a, rfl, fun vs rv => ⟨_, its, n, q, congrArg Value.type hc.1, rfl, hc.2, rv⟩⟩
      · cases e
    · cases e
  · cases e
mutual
def dB (K : PySem.W.Frag) : D → Value → Bool
  | .tup ds, u => match asTup K u with
    | some us => dsB K ds us
    | none => false
  | d, u => leafB d u
def dsB (K : PySem.W.Frag) : List D → List Value → Bool
  | [], us => us.isEmpty
  | d :: ds, us => match us with
    | [] => false
    | u :: us => dB K d u && dsB K ds us
end
mutual
theorem dB_ok {K : PySem.W.Frag} : ∀ {d : D} {u : Value}, dB K d u = true → ∃ v, RelV v u ∧ ∀ H h, Rep K H h d v
  | .tup ds, u, e => by
    rw [dB] at e
    split at e
    · rename_i us q
      obtain ⟨a, rfl, k⟩ := asTup_ok q
      obtain ⟨vs, rv, rp⟩ := dsB_ok e
      exact ⟨.ref a, rfl, fun H h => .tupK (k vs rv) (rp H h)⟩
    · cases e
  | .non, u, e => leaf_ok (by simpa [dB] using e)
  | .bl _, u, e => leaf_ok (by simpa [dB] using e)
  | .int _, u, e => leaf_ok (by simpa [dB] using e)
  | .str _, u, e => leaf_ok (by simpa [dB] using e)
  | .ref _, u, e => leaf_ok (by simpa [dB] using e)
  | .lst _, u, e => leaf_ok (by simpa [dB] using e)
  | .ins _ _ _, u, e => leaf_ok (by simpa [dB] using e)
  | .dct _ _, u, e => leaf_ok (by simpa [dB] using e)
  | .scr _, u, e => leaf_ok (by simpa [dB] using e)
theorem dsB_ok {K : PySem.W.Frag} : ∀ {ds : List D} {us : List Value}, dsB K ds us = true → ∃ vs, Vals vs us ∧ ∀ H h, Reps K H h ds vs
  | [], us, e => by
    rw [dsB] at e
    rw [emp1 e]
    exact ⟨[], .nil, fun _ _ => .nil⟩
  | d :: ds, us, e => by
    cases us with
    | nil => cases e
    | cons u us =>
      rw [dsB] at e
      obtain ⟨e1, e2⟩ := and2 e
      obtain ⟨v, r1, p1⟩ := dB_ok e1
      obtain ⟨vs, r2, p2⟩ := dsB_ok e2
      exact ⟨v :: vs, .cons r1 r2, fun H h => .cons (p1 H h) (p2 H h)⟩
end
abbrev Cn := Str × D
def cnB (K : PySem.W.Frag) (c : Cn) : Bool := match PySem.W.nsIn K mainGlobals c.1 with
  | some (some u) => dB K c.2 u
  | _ => false

/-! ### the head's facts -/
abbrev AlY : Type := He.AlD × Bool
def obsY (fa : List He.Fa) (fn : List He.DefD) (cn : List Cn) (K : PySem.W.Frag) : AlY := (He.obsD fa fn K, cn.all (cnB K))
def valY (fn : List He.DefD) : AlY := (He.valD fn, true)
def SaysY (fa : List He.Fa) (fn : List He.DefD) (cn : List Cn) (K : PySem.W.Frag) : Prop := obsY fa fn cn K = valY fn
def obsYG (n : Nat) (fa : List He.Fa) (fn : List He.DefD) (cn : List Cn) (g : Addr → Option Obj) : AlY := obsY fa fn cn (He.frG g (He.asD g n))
def hookY (n : Nat) (fa : List He.Fa) (fn : List He.DefD) (cn : List Cn) : PySem.W.Hook where
  α := AlY
  obs := fun s => obsYG n fa fn cn s.heap.get?
  val := fun _ => valY fn
  says := fun _ h => ∃ K : PySem.W.Frag, K.In h ∧ SaysY fa fn cn K
  of := fun _ _ e => ⟨_, He.frG_in, e⟩
  keeps := fun _ _ _ q k => q.imp fun K z => ⟨PySem.W.Frag.In.keeps z.1 k, z.2⟩
theorem obsYG_eq {n : Nat} {fa : List He.Fa} {fn : List He.DefD} {cn : List Cn} {g : Addr → Option Obj} {s : Shared} (h : ∀ a, g a = s.heap.get? a) : obsYG n fa fn cn g = (hookY n fa fn cn).obs s := by
  have : g = s.heap.get? := funext h
  subst this
  rfl
theorem SaysY.d {fa : List He.Fa} {fn : List He.DefD} {cn : List Cn} {K : PySem.W.Frag} (c : SaysY fa fn cn K) : He.SaysD fa fn K := (Prod.mk.inj c).1
theorem SaysY.c {fa : List He.Fa} {fn : List He.DefD} {cn : List Cn} {K : PySem.W.Frag} (c : SaysY fa fn cn K) : cn.all (cnB K) = true := (Prod.mk.inj c).2

/-! ### the defs, one behind another -/
section
variable {P : Program} {w : World} {K : PySem.W.Frag} {mg : Str → Option Value} {base : Heap}
def FnG (P : Program) (w : World) (K : PySem.W.Frag) (mg : Str → Option Value) (base : Heap) (k : Nat) (i : FnI) (S : Spec) : Prop :=
  ∃ a fd, FnOk P w K mg base (L2.CX P w) k a fd i.ps (toSp K i.ps.length S) ∧ mg i.name = some (.ref a) ∧ PySem.W.keepIn K (.ref a) = true ∧ ∀ sh ∈ i.shapes, KSh K fd i.ps sh
theorem FnG.mono {j k : Nat} {i : FnI} {S : Spec} (h : j ≤ k) : FnG P w K mg base j i S → FnG P w K mg base k i S
  | ⟨a, fd, F, m, kp, sh⟩ => ⟨a, fd, F.mono h, m, kp, sh⟩
/-- all defs of a table keep their promises -/
def All (P : Program) (w : World) (K : PySem.W.Frag) (mg : Str → Option Value) (base : Heap) (G : Prg) (k : Nat) (T : List (Nat × FnI)) : Prop :=
  ∀ f i, T.lookup f = some i → FnG P w K mg base k i (G.Φ f) ∧ ∀ (s : Nat) sh, i.shapes[s]? = some sh → G.sh f s = sh
theorem All.nil {G : Prg} : All P w K mg base G 0 [] := fun f i e => by cases e
theorem All.cons {G : Prg} {k f : Nat} {i : FnI} {T : List (Nat × FnI)} (a : All P w K mg base G k T) (g : FnG P w K mg base (k + 1) i (G.Φ f)) (hs : ∀ (s : Nat) sh, i.shapes[s]? = some sh → G.sh f s = sh) : All P w K mg base G (k + 1) ((f, i) :: T) := fun f' i' e => by
  rw [List.lookup_cons] at e
  cases q : f' == f with
  | true =>
    rw [q] at e
    have e : some i = some i' := e
    cases e
    have : f' = f := by simpa using q
    subst this
    exact ⟨g, hs⟩
  | false =>
    rw [q] at e
    obtain ⟨g', h'⟩ := a f' i' e
    exact ⟨g'.mono (Nat.le_succ _), h'⟩
@[reducible] def startE : List Str → List D → DEnv
  | [], _ => []
  | _ :: N, [] => none :: startE N []
  | _ :: N, d :: ds => some d :: startE N ds
theorem startE_eq : ∀ {N : List Str} {ds : List D}, ds.length ≤ N.length → startE N ds = ds.map some ++ List.replicate (N.length - ds.length) none
  | [], [], _ => rfl
  | [], _ :: _, h => by simp at h
  | _ :: N, [], _ => by
    have ih := startE_eq (N := N) (ds := []) (Nat.zero_le _)
    show none :: startE N [] = _
    rw [ih]
    simp [List.replicate_succ]
  | _ :: N, d :: ds, h => by
    have ih := startE_eq (N := N) (ds := ds) (by simpa using h)
    show some d :: startE N ds = _
    rw [ih]
    simp
theorem map_get {α β : Type} {f : α → β} : ∀ {l : List α} {i : Nat}, (l.map f)[i]? = (l[i]?).map f := by
  intro l i
  exact List.getElem?_map
theorem relE_start {N : List Str} {H : Hp} {h : Hd} {ds : List D} {vs : List V} (r : Reps K H h ds vs) (hN : ds.length ≤ N.length) : RelE K H h (startE N ds) (L2.start N vs) := by
  have hl := r.length
  rw [startE_eq hN]
  refine ⟨by unfold L2.start; simp [hl], fun i d e => ?_⟩
  unfold L2.start
  by_cases hi : i < ds.length
  · rw [List.getElem?_append_left (by simpa using hi), map_get] at e
    cases q : ds[i]? with
    | none => rw [q] at e; cases e
    | some d' =>
      rw [q] at e; cases e
      obtain ⟨v, e1, r1⟩ := r.get q
      exact ⟨v, by rw [List.getElem?_append_left (by simpa [← hl] using hi), map_get, e1]; rfl, r1⟩
  · rw [List.getElem?_append_right (by simpa using hi)] at e
    rw [List.getElem?_replicate] at e
    split at e <;> cases e
/-- what the walk of a body must give -/
def Meets (G : Prg) (N : List Str) (n : Nat) (b : Ss) (S : Spec) : Prop := ∀ ds h Q Xd, ds.length = n → S ds h Q Xd → wpSs G b (startE N ds) h { nx := fun _ h' => Q .non h', rt := Q } Xd
/-- one more def -/
theorem fn_ok {fd : FuncData} {a : Addr} {x qual : Str} {params : Arguments} {body : List Stmt} {scope : Scope} {dvs : List V} {kws : List (Str × V)} {G : Prg} {k : Nat} {i : FnI} {N : List Str} {T : List (Nat × FnI)} {cns free : List Str} {b : Ss} {S : Spec}
    (F : FunD K x qual params body scope dvs kws a fd) (hsc : C8.scC N i.ps scope = true) 
    (hfree : ∀ x ∈ free, mg x = none) (hcn : ∀ (j : Nat) x, cns[j]? = some x → ∃ u v, mg x = some u ∧ RelV v u ∧ ∀ H h, Rep K H h (G.Γ j) v)
    (hT : All P w K mg base G k T) (hb : mSs ⟨N, scope, fun _ => true, T, cns, free⟩ b body = true) (hS : Meets G N i.ps.length b S) : FnOk P w K mg base (L2.CX P w) (k + 1) a fd i.ps (toSp K i.ps.length S) := by
  have Sc := C8.fnScope_by hsc
  refine F.ok Sc (fun vs H Q E h => ?_) (fun cdv A outer s H vs Q E hr h => ?_)
  · obtain ⟨ds, hh, Qd, Ed, l, _⟩ := h
    exact l
  · obtain ⟨ds, hh, Qd, Ed, l, rs, hrel, hs, c, cx⟩ := h
    generalize hX : cxOf (L2.CX P w) P w K mg base N qual scope a cdv A outer s H E = X
    have ok : COk ⟨N, scope, fun _ => true, T, cns, free⟩ G k E X := by
      subst hX
      exact { N := rfl, nd := Sc.nd, sc := rfl, kind := Sc.kind, fnc := rfl, calm := rfl, room := hr, free := hfree, cns := hcn,
              fns := fun f i e => ⟨⟨let ⟨a, fd, F, m, kp, sh⟩ := (hT f i e).1; ⟨a, fd, k, Nat.le_refl _, F, m, kp, sh⟩⟩, (hT f i e).2⟩,
              px := passes_call (takes_of rfl rfl rfl rfl) fun _ _ _ _ z => z, po := passes_of rfl }
    have eK : X.K = K := by subst hX; rfl
    refine ⟨_, mSs_ok b body ok hb, ?_⟩
    rw [eK]
    have hpl : ds.length ≤ N.length := by
      have h1 := congrArg List.length Sc.pre
      rw [List.length_take] at h1
      have h2 : ds.length = i.ps.length := rs.length.trans l
      omega
    refine ⟨startE N ds, hh, _, Ed, relE_start rs hpl, hrel, hS ds hh Qd Ed (rs.length.trans l) hs, ⟨fun ρ1 h1 σ1 H1 f1 hr1 re1 q1 => ?_, c, fun _ _ _ _ _ _ _ q => q.elim, fun _ _ _ _ _ _ _ q => q.elim⟩, cx⟩
    exact c .non h1 .non H1 f1 hr1 .non q1
theorem fn_mk {fd : FuncData} {a : Addr} {x qual : Str} {params : Arguments} {body : List Stmt} {scope : Scope} {dvs : List V} {kws : List (Str × V)} {k : Nat} {i : FnI} {S : Spec}
    (F : FunD K x qual params body scope dvs kws a fd) (hm : mg i.name = some (.ref a)) (hsh : ∀ sh ∈ i.shapes, KSh K fd i.ps sh) (h : FnOk P w K mg base (L2.CX P w) k a fd i.ps (toSp K i.ps.length S)) : FnG P w K mg base k i S := ⟨a, fd, h, hm, F.kp, hsh⟩
theorem kshs_nil {fd : FuncData} {ps : List Str} : ∀ sh ∈ ([] : List Shape), KSh K fd ps sh := fun sh h => by cases h
theorem kshs_cons {fd : FuncData} {ps : List Str} {s : Shape} {l : List Shape} (h1 : KSh K fd ps s) (h2 : ∀ sh ∈ l, KSh K fd ps sh) : ∀ sh ∈ s :: l, KSh K fd ps sh := fun sh h => by
  rcases List.mem_cons.mp h with e | h
  · rw [e]; exact h1
  · exact h2 sh h
theorem fact_mem {fa : List He.Fa} {fn : List He.DefD} (c : He.SaysD fa fn K) {f : He.Fa} (h : f ∈ fa) : f.ok K = true :=
  List.all_eq_true.mp (and2 (show ((fa.all fun f => f.ok K) && fn.all fun d => d.ok K) = true from (Prod.mk.inj c).1)).1 f h
theorem free_all {h : Heap} {names free : List Str} {fn : List He.DefD} (X : K.In h) (G0 : h.Ns mainGlobals mg) (c : He.SaysD (names.map He.Fa.glo ++ free.map He.Fa.free) fn K) : ∀ x ∈ free, mg x = none := fun x hx =>
  He.free_ok X G0 (fact_mem c (List.mem_append_right _ (List.mem_map_of_mem hx)))
theorem glo_all {h : Heap} {names free : List Str} {fn : List He.DefD} (X : K.In h) (G0 : h.Ns mainGlobals mg) (c : He.SaysD (names.map He.Fa.glo ++ free.map He.Fa.free) fn K) {x : Str} (hx : x ∈ names) : mg x = some (.ref (He.ga K x)) :=
  He.glo_ok X G0 (fact_mem c (List.mem_append_left _ (List.mem_map_of_mem hx)))
theorem cn_ok {h : Heap} {cn : List Cn} (X : K.In h) (G0 : h.Ns mainGlobals mg) (c : cn.all (cnB K) = true) {j : Nat} {x : Str} {d : D} (e : cn[j]? = some (x, d)) : ∃ u v, mg x = some u ∧ RelV v u ∧ ∀ H h, Rep K H h d v := by
  have z := List.all_eq_true.mp c _ (List.mem_of_getElem? e)
  unfold cnB at z
  split at z
  · rename_i u q
    obtain ⟨v, r, p⟩ := dB_ok z
    exact ⟨u, v, PySem.W.mg_of X G0 q, r, p⟩
  · cases z
/-- all arguments by place, none lacks -/
def posShape (n : Nat) : Shape := ⟨n, [], (List.range n).map Src.p⟩
theorem pick_from {us : List V} : ∀ (vs pre : List V), ((List.range' pre.length vs.length).map Src.p).mapM (Src.v (pre ++ vs) us) = some vs
  | [], _ => rfl
  | v :: r, pre => by
    have ih := pick_from (us := us) r (pre ++ [v])
    rw [List.length_append, List.append_assoc] at ih
    rw [List.length_cons, List.range'_succ, List.map_cons, List.mapM_cons]
    have e : Src.v (pre ++ v :: r) us (.p pre.length) = some v := by
      show (pre ++ v :: r)[pre.length]? = some v
      simp
    rw [e]
    have ih : (List.map Src.p (List.range' (pre.length + 1) r.length)).mapM (Src.v (pre ++ v :: r) us) = some r := ih
    rw [ih]; rfl
theorem pick_pos {vs us : List V} {n : Nat} (h : vs.length = n) : pickV ((List.range n).map Src.p) vs us = some vs := by
  subst h
  have := pick_from (us := us) vs []
  rw [List.length_nil, ← List.range_eq_range'] at this
  exact this
theorem ksh_pos {fd : FuncData} {f : Addr} {x qual : Str} {params : Arguments} {body : List Stmt} {scope : Scope} {kws : List (Str × V)} {ps : List Str} {n : Nat} (F : FunD K x qual params body scope [] kws f fd) (hn : ps.length = n)
    (h : ∀ (kV doc pm : Value) (an : Option Addr) (cdv ct : Value) (us : List Value), us.length = ps.length → bindArgs (PySem.W.fnOf x qual params body scope .none kV doc pm an cdv ct) ⟨us, []⟩ = pure (ps.zip us)) : KSh K fd ps (posShape n) := by
  subst hn
  intro s us ws vs es hk l1 l2 rv rw'
  have l1 : us.length = ps.length := l1
  have e : ws = [] := List.eq_nil_of_length_eq_zero l2
  subst e
  exact ⟨vs, us, pick_pos (rv.length.trans l1), rv, l1, F.bindsA h s us l1⟩
/-- some by keywords: perm tells where each parameter's value comes from -/
inductive Pl where
  | p (i : Nat) | k (i : Nat)
def Pl.src : Pl → Src
  | .p i => .p i
  | .k i => .k i
def Pl.u {α : Type} (us ws : List α) : Pl → Option α
  | .p i => us[i]?
  | .k i => ws[i]?
def pickU {α : Type} (pl : List Pl) (us ws : List α) : Option (List α) := pl.mapM (Pl.u us ws)
theorem Vals.get2 {vs : List V} {us : List Value} (r : Vals vs us) {i : Nat} {u : Value} (e : us[i]? = some u) : ∃ v, vs[i]? = some v ∧ RelV v u := by
  induction r generalizing i with
  | nil => simp at e
  | cons r rr ih =>
    cases i with
    | zero => simp at e; subst e; exact ⟨_, rfl, r⟩
    | succ i =>
      obtain ⟨v, h1, h2⟩ := ih (i := i) (by simpa using e)
      exact ⟨v, by simpa using h1, h2⟩
theorem pickU_rel {vs es : List V} {us ws : List Value} (rv : Vals vs us) (rw' : Vals es ws) : ∀ {pl : List Pl} {zs : List Value}, pickU pl us ws = some zs → ∃ zv, pickV (pl.map Pl.src) vs es = some zv ∧ Vals zv zs
  | [], zs, e => by cases e; exact ⟨[], rfl, .nil⟩
  | c :: pl, zs, e => by
    unfold pickU at e
    rw [List.mapM_cons] at e
    cases e1 : c.u us ws with
    | none => rw [e1] at e; cases e
    | some u =>
      rw [e1] at e
      cases e2 : pl.mapM (Pl.u us ws) with
      | none => rw [e2] at e; cases e
      | some ys =>
        rw [e2] at e
        cases e
        obtain ⟨zv, q1, q2⟩ := pickU_rel rv rw' (pl := pl) e2
        have : ∃ v, c.src.v vs es = some v ∧ RelV v u := by
          cases c with
          | p i => exact Vals.get2 rv e1
          | k i => exact Vals.get2 rw' e1
        obtain ⟨v, q3, q4⟩ := this
        refine ⟨v :: zv, ?_, .cons q4 q2⟩
        unfold pickV
        rw [List.map_cons, List.mapM_cons, q3]
        have q1 : (pl.map Pl.src).mapM (Src.v vs es) = some zv := q1
        rw [q1]; rfl
theorem ksh_kw {fd : FuncData} {f : Addr} {x qual : Str} {params : Arguments} {body : List Stmt} {scope : Scope} {kws : List (Str × V)} {ps ks : List Str} {n : Nat} {pl : List Pl} (F : FunD K x qual params body scope [] kws f fd) (hn : pl.length = ps.length)
    (h : ∀ (kV doc pm : Value) (an : Option Addr) (cdv ct : Value) (us ws : List Value), us.length = n → ws.length = ks.length → ∃ zs, pickU pl us ws = some zs ∧ zs.length = ps.length ∧ bindArgs (PySem.W.fnOf x qual params body scope .none kV doc pm an cdv ct) ⟨us, ks.zip ws⟩ = pure (ps.zip zs)) : KSh K fd ps ⟨n, ks, pl.map Pl.src⟩ := by
  intro s us ws vs es hk l1 l2 rv rw'
  obtain ⟨oc, od, dV, kV, doc, pm, an, cdv, ct, osl, rfl, lk, hcd, hD, hK⟩ := F.ex
  rcases hD with ⟨_, rfl⟩ | ⟨e, _⟩
  · obtain ⟨zs, e1, e2, e3⟩ := h kV doc pm an cdv ct us ws l1 l2
    obtain ⟨zv, q1, q2⟩ := pickU_rel rv rw' e1
    exact ⟨zv, zs, q1, q2, e2, .of_eq e3⟩
  · exact absurd rfl e
end
/-! ### the end -/
/-- the law's promise: every script of at most n ints -/
def lawS (n : Nat) : Spec := fun ds h Q _ => ∃ is : List Int, ds = [.scr is] ∧ is.length ≤ n ∧ ∀ h', Q (.bl true) h'
theorem walkY {l : PySem.W.OpenLaw} {n k : Nat} {q : Program} {loose : List Str} {XP : (Str → Option Value) → Heap → Prop} {YP : World → Heap → Prop} {d : DefRec} {x : Str} (hn : l.most = some n) (hn2 : n ≤ sizeLine) (hdf : d.params.defaults = []) (hr : Room k callerA)
    (F : ∀ (w : World) (mg : Str → Option Value) (fa : Addr) (h : Heap), YP w h → h.Ns mainGlobals mg → mg d.name = some (.ref fa) →
      ∃ (K : PySem.W.Frag) (fd : FuncData), K.In h ∧ (∀ (s : Shared) (u : Value), BindsTo s fd ⟨[u], []⟩ [(x, u)]) ∧
        ∀ base : Heap, K.In base → base.Ns mainGlobals mg → FnOk l.prog w K mg base (L2.CX l.prog w) k fa fd [x] (toSp K 1 (lawS n))) :
    PySem.W.WalkO q loose XP YP l.row.toRowW d [] (fun f vs => PySem.call f vs) := by
  refine Att.attach_call hn hdf ?_
  intro w s₀ s₁ mg mb fa o pm cd doc a vs ns G Y ho hd hcd hmg hobj hints hlen hg
  obtain ⟨K, fd, KX, hb, hF⟩ := F w mg fa _ Y G.T.g hmg
  refine law_call KX G.T.g G.T.b G.T.builtins G.T.nolimit hg hobj hints (Nat.le_trans hlen hn2) hr hF hb (fun H _ hS => ?_) ?_
  · refine ⟨[.scr ns], fun _ => none, fun d _ => d = .bl true, fun _ _ => False, rfl, .cons (.scr ?_) .nil, fun a d e => (by cases e), ⟨ns, rfl, hlen, fun _ => rfl⟩, fun d h v H f hr r q => ?_, fun _ _ _ _ _ _ _ _ q => q.elim⟩
    · rcases hS with z | z
      · exact .inl ⟨z, rfl⟩
      · exact .inr z
    · subst q; cases r; rfl
  · rintro H e s' ⟨_, _, _, _, _, _, _, _, _, _, _, _, z⟩
    exact z.elim
end Y
namespace Y
open PySem (Addr sizeLine Str)

/-! ### rules for loops, in plain data -/
theorem loopF_rule {α : Type} {t : D → DEnv → Hd → (DEnv → Hd → Prop) → QX → Prop} {b : TDS} {N : EndsD} {X : QX} {enc : α → D} {l : List α} (P : List α → DEnv → Hd → Prop)
    (done : ∀ ρ h, P l ρ h → N.nx ρ h)
    (step : ∀ (pre : List α) (a : α) (suf : List α) (ρ : DEnv) (h : Hd) (K : DEnv → Hd → Prop), l = pre ++ a :: suf → P pre ρ h → (∀ ρ' h', P (pre ++ [a]) ρ' h' → K ρ' h') →
      t (enc a) ρ h (fun ρ1 h1 => b ρ1 h1 { nx := K, rt := N.rt, bk := N.nx, ct := K } X) X) {ρ : DEnv} {h : Hd} (h0 : P [] ρ h) : loopF t b N X (l.map enc) ρ h := by
  have go : ∀ (suf pre : List α) (ρ : DEnv) (h : Hd), l = pre ++ suf → P pre ρ h → loopF t b N X (suf.map enc) ρ h := by
    intro suf
    induction suf with
    | nil =>
      intro pre ρ h e p
      rw [List.append_nil] at e
      subst e
      exact done ρ h p
    | cons a suf ih =>
      intro pre ρ h e p
      exact step pre a suf ρ h _ e p fun ρ' h' p' => ih (pre ++ [a]) ρ' h' (by rw [List.append_assoc]; exact e) p'
  exact go l [] ρ h rfl h0
/-- a loop whose turns keep P, whatever the item -/
theorem loopF_keep {α : Type} {t : D → DEnv → Hd → (DEnv → Hd → Prop) → QX → Prop} {b : TDS} {N : EndsD} {X : QX} {enc : α → D} {l : List α} (P : DEnv → Hd → Prop)
    (done : ∀ ρ h, P ρ h → N.nx ρ h)
    (step : ∀ (a : α) (ρ : DEnv) (h : Hd) (K : DEnv → Hd → Prop), a ∈ l → P ρ h → (∀ ρ' h', P ρ' h' → K ρ' h') →
      t (enc a) ρ h (fun ρ1 h1 => b ρ1 h1 { nx := K, rt := N.rt, bk := N.nx, ct := K } X) X) {ρ : DEnv} {h : Hd} (h0 : P ρ h) : loopF t b N X (l.map enc) ρ h :=
  loopF_rule (fun _ ρ h => P ρ h) done (fun pre a suf ρ h K e p k => step a ρ h K (by rw [e]; simp) p k) h0
theorem loopC_rule {α : Type} {t : D → DEnv → Hd → (DEnv → Hd → Prop) → QX → Prop} {c : DEnv → Hd → (Bool → Hd → Prop) → QX → Prop} {e : TD} {ρ : DEnv} {Q : List D → Hd → Prop} {enc : α → D} {l : List α} (P : List α → List D → Hd → Prop)
    (done : ∀ acc h, P l acc h → Q acc h)
    (step : ∀ (pre : List α) (a : α) (suf : List α) (acc : List D) (h : Hd) (K : List D → Hd → Prop), l = pre ++ a :: suf → P pre acc h → (∀ acc' h', P (pre ++ [a]) acc' h' → K acc' h') →
      t (enc a) ρ h (fun ρ1 h1 => c ρ1 h1 (fun b h2 => if b = true then e ρ1 h2 (fun y h3 => acc.length < sizeLine ∧ K (acc ++ [y]) h3) (fun _ _ => False) else K acc h2) (fun _ _ => False)) (fun _ _ => False)) {h : Hd} (h0 : P [] [] h) : loopC t c e ρ Q (l.map enc) [] h := by
  have go : ∀ (suf pre : List α) (acc : List D) (h : Hd), l = pre ++ suf → P pre acc h → loopC t c e ρ Q (suf.map enc) acc h := by
    intro suf
    induction suf with
    | nil =>
      intro pre acc h e p
      rw [List.append_nil] at e
      subst e
      exact done acc h p
    | cons a suf ih =>
      intro pre acc h e p
      exact step pre a suf acc h _ e p fun acc' h' p' => ih (pre ++ [a]) acc' h' (by rw [List.append_assoc]; exact e) p'
  exact go l [] [] h rfl h0
/-- [f(a) for a in l], nothing changed -/
theorem loopC_map {α : Type} {t : D → DEnv → Hd → (DEnv → Hd → Prop) → QX → Prop} {e : TD} {ρ : DEnv} {Q : List D → Hd → Prop} {enc : α → D} {l : List α} {h : Hd} (f : α → D) (hl : l.length ≤ sizeLine)
    (step : ∀ a ∈ l, ∀ K : D → Hd → Prop, K (f a) h → t (enc a) ρ h (fun ρ1 h1 => e ρ1 h1 K (fun _ _ => False)) (fun _ _ => False)) (q : Q (l.map f) h) : loopC t (fun _ h Q _ => Q true h) e ρ Q (l.map enc) [] h := by
  refine loopC_rule (fun pre acc h' => acc = pre.map f ∧ h' = h) (fun acc h' p => by rw [p.1, p.2]; exact q) (fun pre a suf acc h' K e1 p k => ?_) ⟨rfl, rfl⟩
  obtain ⟨rfl, rfl⟩ := p
  have s := step a (by rw [e1]; simp) (fun y h3 => (pre.map f).length < sizeLine ∧ K (pre.map f ++ [y]) h3) ⟨by
    have : l.length = pre.length + (suf.length + 1) := by rw [e1]; simp
    rw [List.length_map]; omega, k _ _ ⟨by simp, rfl⟩⟩
  exact s
/-- [f(a) for a in l if p(a)], nothing changed -/
theorem loopC_filter {α : Type} {t : D → DEnv → Hd → (DEnv → Hd → Prop) → QX → Prop} {c : DEnv → Hd → (Bool → Hd → Prop) → QX → Prop} {e : TD} {ρ : DEnv} {Q : List D → Hd → Prop} {enc : α → D} {l : List α} {h : Hd} (f : α → D) (p : α → Bool) (hl : l.length ≤ sizeLine)
    (step : ∀ a ∈ l, ∀ (K : D → Hd → Prop) (Z : Hd → Prop), (p a = true → K (f a) h) → (p a = false → Z h) → t (enc a) ρ h (fun ρ1 h1 => c ρ1 h1 (fun b h2 => if b = true then e ρ1 h2 K (fun _ _ => False) else Z h2) (fun _ _ => False)) (fun _ _ => False)) (q : Q ((l.filter p).map f) h) : loopC t c e ρ Q (l.map enc) [] h := by
  refine loopC_rule (fun pre acc h' => acc = (pre.filter p).map f ∧ h' = h) (fun acc h' p => by rw [p.1, p.2]; exact q) (fun pre a suf acc h' K e1 p' k => ?_) ⟨rfl, rfl⟩
  obtain ⟨rfl, rfl⟩ := p'
  refine step a (by rw [e1]; simp) (fun y h3 => ((pre.filter p).map f).length < sizeLine ∧ K ((pre.filter p).map f ++ [y]) h3) (fun h2 => K ((pre.filter p).map f) h2) (fun pa => ⟨?_, k _ _ ⟨by simp [pa], rfl⟩⟩) (fun pa => k _ _ ⟨by simp [pa], rfl⟩)
  have : l.length = pre.length + (suf.length + 1) := by rw [e1]; simp
  have := List.length_filter_le p pre
  rw [List.length_map]; omega
theorem loopW_rule {c : DEnv → Hd → (Bool → Hd → Prop) → QX → Prop} {b : TDS} {ρ : DEnv} {h : Hd} {N : EndsD} {X : QX} (W : Nat → DEnv → Hd → Prop) {m : Nat} (h0 : W m ρ h)
    (step : ∀ m ρ h (K : DEnv → Hd → Prop), W m ρ h → (∀ m' ρ' h', m' < m → W m' ρ' h' → K ρ' h') → c ρ h (fun k h1 => if k = true then b ρ h1 { nx := K, rt := N.rt, bk := N.nx, ct := K } X else N.nx ρ h1) X) : loopW c b ρ h N X :=
  ⟨W, ⟨m, h0⟩, fun m ρ h w => step m ρ h _ w fun m' ρ' h' l w' => ⟨m', l, w'⟩⟩
/-! ### small facts -/
theorem hupd_get {h : Hd} {a b : Addr} {d : D} : hupd h a d b = if b = a then some d else h b := rfl
theorem fresh_ne {h : Hd} {a D' : Addr} {d : D} (e : h a = some d) (n : h D' = none) : a ≠ D' := fun z => by rw [z, n] at e; cases e
theorem shOf_ok {L : List (List Shape)} {f s : Nat} {i : FnI} {sh : Shape} (e : L[f]? = some i.shapes) (h : i.shapes[s]? = some sh) : ((L[f]?).bind fun l => l[s]?).getD ⟨0, [], []⟩ = sh := by
  rw [e]
  show (i.shapes[s]?).getD _ = sh
  rw [h]; rfl
end Y
namespace Y
open PySem (Addr sizeLine Str PyData)
/-! ### lists of ints: ==, in -/
theorem toPys_ints : ∀ is : List Int, toPys (is.map D.int) = some (is.map PyData.int)
  | [] => rfl
  | i :: is => by rw [List.map_cons, toPys, toPys_ints is]; rfl
theorem canLay_ints : ∀ is : List Int, PySem.PyData.canLayAll0 (is.map PyData.int) = true
  | [] => rfl
  | i :: is => by rw [List.map_cons, PySem.PyData.canLayAll0, canLay_ints is]; rfl
theorem depth_ints : ∀ is : List Int, PySem.PyData.depthAll (is.map PyData.int) = 0
  | [] => rfl
  | i :: is => by rw [List.map_cons, PySem.PyData.depthAll, depth_ints is]; rfl
theorem eqv_ints : ∀ is js : List Int, PySem.PyData.eqvAll (is.map PyData.int) (js.map PyData.int) = decide (is = js)
  | [], [] => rfl
  | [], _ :: _ => rfl
  | _ :: _, [] => rfl
  | i :: is, j :: js => by
    rw [List.map_cons, List.map_cons, PySem.PyData.eqvAll, eqv_ints is js]
    show ((i == j) && decide (is = js)) = _
    by_cases e1 : i = j <;> by_cases e2 : is = js <;> simp [e1, e2]
theorem shaped_tupI (is : List Int) : PySem.SeqAt.shaped (.tuple (is.map PyData.int)) = true := by
  unfold PySem.SeqAt.shaped
  rw [show PySem.PyData.canLay0 (.tuple (is.map PyData.int)) = true from by rw [PySem.PyData.canLay0]; exact canLay_ints is, show PySem.PyData.depth (.tuple (is.map PyData.int)) = 1 from by rw [PySem.PyData.depth, depth_ints]]
  rfl
theorem shaped_lstI (is : List Int) : PySem.SeqAt.shaped (.list (is.map PyData.int)) = true := by
  unfold PySem.SeqAt.shaped
  rw [show PySem.PyData.canLay0 (.list (is.map PyData.int)) = true from by rw [PySem.PyData.canLay0]; exact canLay_ints is, show PySem.PyData.depth (.list (is.map PyData.int)) = 1 from by rw [PySem.PyData.depth, depth_ints]]
  rfl
theorem eqQ_tupI {is js : List Int} {h : Hd} {Q : Bool → Prop} (q : Q (decide (is = js))) : eqQ (.tup (is.map D.int)) (.tup (js.map D.int)) h Q := by
  show deepEq h _ _ Q
  unfold deepEq
  rw [show toPy (deref h (.tup (is.map D.int))) = some (.tuple (is.map PyData.int)) from by show toPy (.tup _) = _; rw [toPy, toPys_ints], show toPy (deref h (.tup (js.map D.int))) = some (.tuple (js.map PyData.int)) from by show toPy (.tup _) = _; rw [toPy, toPys_ints]]
  refine ⟨shaped_tupI is, shaped_tupI js, ?_⟩
  rw [PySem.PyData.eqv, eqv_ints]
  exact q
theorem eqQ_lstI {is js : List Int} {h : Hd} {Q : Bool → Prop} (q : Q (decide (is = js))) : eqQ (.lst (is.map D.int)) (.lst (js.map D.int)) h Q := by
  show deepEq h _ _ Q
  unfold deepEq
  rw [show toPy (deref h (.lst (is.map D.int))) = some (.list (is.map PyData.int)) from by show toPy (.lst _) = _; rw [toPy, toPys_ints], show toPy (deref h (.lst (js.map D.int))) = some (.list (js.map PyData.int)) from by show toPy (.lst _) = _; rw [toPy, toPys_ints]]
  refine ⟨shaped_lstI is, shaped_lstI js, ?_⟩
  rw [PySem.PyData.eqv, eqv_ints]
  exact q
theorem flat_ints : ∀ is : List Int, (is.map D.int).all flatD = true
  | [] => rfl
  | i :: is => by rw [List.map_cons, List.all_cons, flat_ints is]; rfl
theorem inD_ints (i : Int) : ∀ is : List Int, inD (.int i) (is.map D.int) = decide (i ∈ is)
  | [] => rfl
  | j :: is => by
    have ih := inD_ints i is
    unfold inD at ih ⊢
    rw [List.map_cons, List.any_cons, ih]
    show ((j == i) || decide (i ∈ is)) = _
    by_cases e : j = i
    · subst e; simp
    · have e' : ¬ i = j := fun z => e z.symm
      simp [e, e']
end Y
namespace K03
open PySem PySem.Spec PyProof.Rows L2 Y
abbrev R : PySem.W.OpenRow := PySem.W.OpenLaw.row PySem.Challenge.rw_willdealt_k03_whole_pennies_hang_togethe
def top (i : Nat) : Stmt := R.prog.main.body.getD i (.Pass ⟨0, 0, 0, 0⟩)
def cns : List Str := ["MOST_AMOUNT", "MOST_SHARES"]
def free : List Str := ["abs", "all", "any", "bool", "divmod", "enumerate", "int", "isinstance", "len", "list", "max", "min", "range", "sum", "tuple", "zip"]
def cnD : List Cn := [("MOST_AMOUNT", .int 1000000000000), ("MOST_SHARES", .int 64)]
def T0 : List (Nat × FnI) := []
def i__law_pool : FnI := ⟨"_law_pool", ["script", "k"], [⟨2, [], [.p 0, .p 1]⟩]⟩
def T1 : List (Nat × FnI) := (0, i__law_pool) :: T0
@[reducible] def N__law_pool : List Str := ["script", "k", "cell", "mix", "found", "turn"]
@[reducible] def b__law_pool : Ss := (.cons (.asg (.nm 2) (.bif .sum (.cons (.slc (.loc 0) (.loc 1) (.op .add (.loc 1) (.int 1))) .nil))) (.cons (.ifS (.orE (.cmp .Lt (.loc 2) (.int 0)) (.cmp .GtE (.loc 2) (.op .pow (.int 10) (.int 18)))) (.cons (.ret (.lst true (.cons (.op .mod (.bif .abs (.cons (.loc 2) .nil)) (.op .mul (.op .mul (.op .mul (.op .mul (.op .mul (.op .pow (.int 10) (.int 64)) (.op .pow (.int 10) (.int 64))) (.op .pow (.int 10) (.int 64))) (.op .pow (.int 10) (.int 64))) (.op .pow (.int 10) (.int 64))) (.op .pow (.int 10) (.int 64)))) .nil))) .nil) .nil) (.cons (.asg (.nm 3) (.op .add (.op .add (.op .mul (.loc 2) (.int 48271)) (.op .mul (.op .mul (.int 977) (.loc 1)) (.loc 1))) (.int 13))) (.cons (.asg (.nm 4) (.int 0)) (.cons (.forS (.nm 5) (.rg1 (.int 27)) (.cons (.asg (.nm 3) (.op .mod (.op .add (.op .add (.op .mul (.op .mod (.loc 3) (.int 999999999989)) (.int 69621)) (.op .mul (.int 40503) (.loc 5))) (.int 271)) (.int 999999999989))) (.cons (.asg (.nm 4) (.op .add (.op .mul (.loc 4) (.op .pow (.int 10) (.int 11))) (.op .mod (.op .mul (.loc 3) (.op .add (.op .mod (.loc 3) (.int 65537)) (.int 3))) (.int 99999999977)))) .nil))) (.cons (.ret (.lst true (.cons (.loc 4) .nil))) .nil))))))
theorem m__law_pool : mSs ⟨N__law_pool, defScope (top 17), fun _ => true, T0, cns, free⟩ b__law_pool (defBody (top 17)) = true := by kernel_rfl
theorem s__law_pool : C8.scC N__law_pool i__law_pool.ps (defScope (top 17)) = true := by kernel_rfl
def i__law_take : FnI := ⟨"_law_take", ["pool", "many"], [⟨2, [], [.p 0, .p 1]⟩]⟩
def T2 : List (Nat × FnI) := (1, i__law_take) :: T1
@[reducible] def N__law_take : List Str := ["pool", "many", "digit"]
@[reducible] def b__law_take : Ss := (.cons (.asg (.tp (.cons (.sb (.loc 0) (.int 0)) (.cons (.nm 2) .nil))) (.bif .divmod (.cons (.ix (.loc 0) (.int 0)) (.cons (.loc 1) .nil)))) (.cons (.ret (.loc 2)) .nil))
theorem m__law_take : mSs ⟨N__law_take, defScope (top 18), fun _ => true, T1, cns, free⟩ b__law_take (defBody (top 18)) = true := by kernel_rfl
theorem s__law_take : C8.scC N__law_take i__law_take.ps (defScope (top 18)) = true := by kernel_rfl
def i__law_low : FnI := ⟨"_law_low", ["top", "bottom"], [⟨2, [], [.p 0, .p 1]⟩]⟩
def T3 : List (Nat × FnI) := (2, i__law_low) :: T2
@[reducible] def N__law_low : List Str := ["top", "bottom", "a", "b"]
@[reducible] def b__law_low : Ss := (.cons (.par [2, 3] (.cons (.loc 0) (.cons (.loc 1) .nil))) (.cons (.whl (.cmp .Gt (.loc 3) (.int 0)) (.cons (.par [2, 3] (.cons (.loc 3) (.cons (.op .mod (.loc 2) (.loc 3)) .nil))) .nil)) (.cons (.ret (.tup (.cons (.op .fdiv (.loc 0) (.loc 2)) (.cons (.op .fdiv (.loc 1) (.loc 2)) .nil)))) .nil)))
theorem m__law_low : mSs ⟨N__law_low, defScope (top 19), fun _ => true, T2, cns, free⟩ b__law_low (defBody (top 19)) = true := by kernel_rfl
theorem s__law_low : C8.scC N__law_low i__law_low.ps (defScope (top 19)) = true := by kernel_rfl
def i__law_shares : FnI := ⟨"_law_shares", ["pool"], [⟨1, [], [.p 0]⟩]⟩
def T4 : List (Nat × FnI) := (3, i__law_shares) :: T3
@[reducible] def N__law_shares : List Str := ["pool", "found", "turn", "wide", "top", "bottom"]
@[reducible] def b__law_shares : Ss := (.cons (.asg (.nm 1) (.lst true .nil)) (.cons (.forS (.nm 2) (.rg1 (.op .add (.int 1) (.call 1 0 (.cons (.loc 0) (.cons (.int 10) .nil)) .nil))) (.cons (.asg (.nm 3) (.ix (.lst false (.cons (.int 3) (.cons (.int 12) (.cons (.op .pow (.int 10) (.int 6)) .nil)))) (.call 1 0 (.cons (.loc 0) (.cons (.int 3) .nil)) .nil))) (.cons (.par [4, 5] (.cons (.call 1 0 (.cons (.loc 0) (.cons (.op .add (.loc 3) (.int 1)) .nil)) .nil) (.cons (.op .add (.int 1) (.call 1 0 (.cons (.loc 0) (.cons (.ix (.lst false (.cons (.int 1) (.cons (.loc 3) .nil))) (.call 1 0 (.cons (.loc 0) (.cons (.int 2) .nil)) .nil)) .nil)) .nil)) .nil))) (.cons (.expr (.mth (.loc 1) .append (.cons (.call 2 0 (.cons (.loc 4) (.cons (.loc 5) .nil)) .nil) .nil))) .nil)))) (.cons (.frz 1) (.cons (.ret (.ife (.cmp .Gt (.bif .max (.cons (.comp false [4, 5] (.loc 4) (.tp (.cons (.nm 4) (.cons (.nm 5) .nil))) (.seq (.loc 1)) .nil) .nil)) (.int 0)) (.bif .tuple (.cons (.loc 1) .nil)) (.op .add (.tup (.cons (.tup (.cons (.int 1) (.cons (.int 1) .nil))) .nil)) (.bif .tuple (.cons (.slc (.loc 1) (.int 1) .non) .nil))))) .nil))))
theorem m__law_shares : mSs ⟨N__law_shares, defScope (top 20), fun _ => true, T3, cns, free⟩ b__law_shares (defBody (top 20)) = true := by kernel_rfl
theorem s__law_shares : C8.scC N__law_shares i__law_shares.ps (defScope (top 20)) = true := by kernel_rfl
def i_is_whole : FnI := ⟨"is_whole", ["thing"], [⟨1, [], [.p 0]⟩]⟩
def T5 : List (Nat × FnI) := (4, i_is_whole) :: T4
@[reducible] def N_is_whole : List Str := ["thing"]
@[reducible] def b_is_whole : Ss := (.cons (.ret (.andE (.isi (.loc 0) .int) (.notE (.isi (.loc 0) .bool)))) .nil)
theorem m_is_whole : mSs ⟨N_is_whole, defScope (top 5), fun _ => true, T4, cns, free⟩ b_is_whole (defBody (top 5)) = true := by kernel_rfl
theorem s_is_whole : C8.scC N_is_whole i_is_whole.ps (defScope (top 5)) = true := by kernel_rfl
def i_is_between : FnI := ⟨"is_between", ["thing", "low", "high"], [⟨3, [], [.p 0, .p 1, .p 2]⟩]⟩
def T6 : List (Nat × FnI) := (5, i_is_between) :: T5
@[reducible] def N_is_between : List Str := ["thing", "low", "high"]
@[reducible] def b_is_between : Ss := (.cons (.ret (.andE (.call 4 0 (.cons (.loc 0) .nil) .nil) (.chn .LtE .LtE (.loc 1) (.loc 0) (.loc 2)))) .nil)
theorem m_is_between : mSs ⟨N_is_between, defScope (top 6), fun _ => true, T5, cns, free⟩ b_is_between (defBody (top 6)) = true := by kernel_rfl
theorem s_is_between : C8.scC N_is_between i_is_between.ps (defScope (top 6)) = true := by kernel_rfl
def i_divisor : FnI := ⟨"divisor", ["one", "other"], [⟨2, [], [.p 0, .p 1]⟩]⟩
def T7 : List (Nat × FnI) := (6, i_divisor) :: T6
@[reducible] def N_divisor : List Str := ["one", "other"]
@[reducible] def b_divisor : Ss := (.cons (.whl (.cmp .Gt (.loc 1) (.int 0)) (.cons (.par [0, 1] (.cons (.loc 1) (.cons (.op .mod (.loc 0) (.loc 1)) .nil))) .nil)) (.cons (.ret (.loc 0)) .nil))
theorem m_divisor : mSs ⟨N_divisor, defScope (top 10), fun _ => true, T6, cns, free⟩ b_divisor (defBody (top 10)) = true := by kernel_rfl
theorem s_divisor : C8.scC N_divisor i_divisor.ps (defScope (top 10)) = true := by kernel_rfl
def i_is_share : FnI := ⟨"is_share", ["thing"], [⟨1, [], [.p 0]⟩]⟩
def T8 : List (Nat × FnI) := (7, i_is_share) :: T7
@[reducible] def N_is_share : List Str := ["thing"]
@[reducible] def b_is_share : Ss := (.cons (.ifS (.orE (.notE (.isi (.loc 0) .tuple)) (.orE (.cmp .NotEq (.bif .len (.cons (.loc 0) .nil)) (.int 2)) (.orE (.notE (.call 4 0 (.cons (.ix (.loc 0) (.int 0)) .nil) .nil)) (.notE (.call 4 0 (.cons (.ix (.loc 0) (.int 1)) .nil) .nil))))) (.cons (.ret (.bl false)) .nil) .nil) (.cons (.ret (.andE (.cmp .GtE (.ix (.loc 0) (.int 0)) (.int 0)) (.andE (.cmp .GtE (.ix (.loc 0) (.int 1)) (.int 1)) (.cmp .Eq (.call 6 0 (.cons (.ix (.loc 0) (.int 1)) (.cons (.ix (.loc 0) (.int 0)) .nil)) .nil) (.int 1))))) .nil))
theorem m_is_share : mSs ⟨N_is_share, defScope (top 11), fun _ => true, T7, cns, free⟩ b_is_share (defBody (top 11)) = true := by kernel_rfl
theorem s_is_share : C8.scC N_is_share i_is_share.ps (defScope (top 11)) = true := by kernel_rfl
def i_are_shares : FnI := ⟨"are_shares", ["thing"], [⟨1, [], [.p 0]⟩]⟩
def T9 : List (Nat × FnI) := (8, i_are_shares) :: T8
@[reducible] def N_are_shares : List Str := ["thing", "one"]
@[reducible] def b_are_shares : Ss := (.cons (.ifS (.orE (.notE (.isi (.loc 0) .tuple)) (.orE (.notE (.chn .LtE .LtE (.int 1) (.bif .len (.cons (.loc 0) .nil)) (.glo 1))) (.notE (.bif .all (.cons (.comp false [1] (.call 7 0 (.cons (.loc 1) .nil) .nil) (.nm 1) (.seq (.loc 0)) .nil) .nil))))) (.cons (.ret (.bl false)) .nil) .nil) (.cons (.ret (.bif .any (.cons (.comp false [1] (.cmp .Gt (.ix (.loc 1) (.int 0)) (.int 0)) (.nm 1) (.seq (.loc 0)) .nil) .nil))) .nil))
theorem m_are_shares : mSs ⟨N_are_shares, defScope (top 12), fun _ => true, T8, cns, free⟩ b_are_shares (defBody (top 12)) = true := by kernel_rfl
theorem s_are_shares : C8.scC N_are_shares i_are_shares.ps (defScope (top 12)) = true := by kernel_rfl
def i_parts_by : FnI := ⟨"parts_by", ["amount", "tops"], [⟨2, [], [.p 0, .p 1]⟩]⟩
def T10 : List (Nat × FnI) := (9, i_parts_by) :: T9
@[reducible] def N_parts_by : List Str := ["amount", "tops", "together", "found", "top", "lack", "number"]
@[reducible] def b_parts_by : Ss := (.cons (.asg (.nm 2) (.bif .sum (.cons (.loc 1) .nil))) (.cons (.asg (.nm 3) (.comp true [4] (.op .fdiv (.op .mul (.loc 0) (.loc 4)) (.loc 2)) (.nm 4) (.seq (.loc 1)) .nil)) (.cons (.asg (.nm 5) (.op .sub (.loc 0) (.bif .sum (.cons (.loc 3) .nil)))) (.cons (.forS (.tp (.cons (.nm 6) (.cons (.nm 4) .nil))) (.enm (.loc 1)) (.cons (.ifS (.andE (.cmp .Gt (.loc 5) (.int 0)) (.cmp .Gt (.op .mod (.op .mul (.loc 0) (.loc 4)) (.loc 2)) (.int 0))) (.cons (.augS (.loc 3) (.loc 6) .add (.int 1)) (.cons (.aug 5 .sub (.int 1)) .nil)) .nil) .nil)) (.cons (.frz 3) (.cons (.ret (.bif .tuple (.cons (.loc 3) .nil))) .nil))))))
theorem m_parts_by : mSs ⟨N_parts_by, defScope (top 13), fun _ => true, T9, cns, free⟩ b_parts_by (defBody (top 13)) = true := by kernel_rfl
theorem s_parts_by : C8.scC N_parts_by i_parts_by.ps (defScope (top 13)) = true := by kernel_rfl
def i_split_by : FnI := ⟨"split_by", ["amount", "shares"], [⟨2, [], [.p 0, .p 1]⟩]⟩
def T11 : List (Nat × FnI) := (10, i_split_by) :: T10
@[reducible] def N_split_by : List Str := ["amount", "shares", "bottom", "top", "under"]
@[reducible] def b_split_by : Ss := (.cons (.asg (.nm 2) (.int 1)) (.cons (.forS (.tp (.cons (.nm 3) (.cons (.nm 4) .nil))) (.seq (.loc 1)) (.cons (.asg (.nm 2) (.op .fdiv (.op .mul (.loc 2) (.loc 4)) (.call 6 0 (.cons (.loc 2) (.cons (.loc 4) .nil)) .nil))) .nil)) (.cons (.ret (.call 9 0 (.cons (.loc 0) (.cons (.comp false [3, 4] (.op .mul (.loc 3) (.op .fdiv (.loc 2) (.loc 4))) (.tp (.cons (.nm 3) (.cons (.nm 4) .nil))) (.seq (.loc 1)) .nil) .nil)) .nil)) .nil)))
theorem m_split_by : mSs ⟨N_split_by, defScope (top 14), fun _ => true, T10, cns, free⟩ b_split_by (defBody (top 14)) = true := by kernel_rfl
theorem s_split_by : C8.scC N_split_by i_split_by.ps (defScope (top 14)) = true := by kernel_rfl
def i_parted : FnI := ⟨"parted", ["amount", "shares"], [⟨2, [], [.p 0, .p 1]⟩, ⟨0, ["shares", "amount"], [.k 1, .k 0]⟩, ⟨0, ["amount", "shares"], [.k 0, .k 1]⟩]⟩
def T12 : List (Nat × FnI) := (11, i_parted) :: T11
@[reducible] def N_parted : List Str := ["amount", "shares"]
@[reducible] def b_parted : Ss := (.cons (.ifS (.notE (.call 5 0 (.cons (.loc 0) (.cons (.int 0) (.cons (.glo 0) .nil))) .nil)) (.cons .never .nil) .nil) (.cons (.ifS (.notE (.call 8 0 (.cons (.loc 1) .nil) .nil)) (.cons .never .nil) .nil) (.cons (.ret (.call 10 0 (.cons (.loc 0) (.cons (.loc 1) .nil)) .nil)) .nil)))
theorem m_parted : mSs ⟨N_parted, defScope (top 15), fun _ => true, T11, cns, free⟩ b_parted (defBody (top 15)) = true := by kernel_rfl
theorem s_parted : C8.scC N_parted i_parted.ps (defScope (top 15)) = true := by kernel_rfl
def i__law_between : FnI := ⟨"_law_between", ["pool", "portions"], [⟨2, [], [.p 0, .p 1]⟩]⟩
def T13 : List (Nat × FnI) := (12, i__law_between) :: T12
@[reducible] def N__law_between : List Str := ["pool", "portions", "found", "places", "share"]
@[reducible] def b__law_between : Ss := (.cons (.par [2, 3] (.cons (.lst true .nil) (.cons (.lst true .nil) .nil))) (.cons (.forS (.nm 4) (.seq (.loc 1)) (.cons (.asg (.nm 2) (.op .addM (.frz (.loc 2)) (.op .mul (.lst false (.cons (.tup (.cons (.int 0) (.cons (.int 1) .nil))) .nil)) (.call 1 0 (.cons (.loc 0) (.cons (.int 3) .nil)) .nil)))) (.cons (.expr (.mth (.loc 3) .append (.cons (.bif .len (.cons (.loc 2) .nil)) .nil))) (.cons (.expr (.mth (.loc 2) .append (.cons (.loc 4) .nil))) .nil)))) (.cons (.frz 2) (.cons (.frz 3) (.cons (.ret (.tup (.cons (.bif .tuple (.cons (.loc 2) .nil)) (.cons (.loc 3) .nil)))) .nil)))))
theorem m__law_between : mSs ⟨N__law_between, defScope (top 21), fun _ => true, T12, cns, free⟩ b__law_between (defBody (top 21)) = true := by kernel_rfl
theorem s__law_between : C8.scC N__law_between i__law_between.ps (defScope (top 21)) = true := by kernel_rfl
def i__law_right : FnI := ⟨"_law_right", ["pool", "pence", "portions"], [⟨3, [], [.p 0, .p 1, .p 2]⟩]⟩
def T14 : List (Nat × FnI) := (13, i__law_right) :: T13
@[reducible] def N__law_right : List Str := ["pool", "pence", "portions", "told", "a", "b", "top", "bottom", "wide", "places", "found", "spot", "at", "turned", "more", "one", "other"]
@[reducible] def b__law_right : Ss := (.cons (.asg (.nm 3) (.call 11 0 (.cons (.loc 1) (.cons (.loc 2) .nil)) .nil)) (.cons (.ifS (.orE (.notE (.isi (.loc 3) .tuple)) (.orE (.cmp .NotEq (.bif .sum (.cons (.loc 3) .nil)) (.loc 1)) (.cmp .NotEq (.call 11 1 .nil (.cons (.loc 2) (.cons (.loc 1) .nil))) (.loc 3)))) (.cons (.ret (.bl false)) .nil) .nil) (.cons (.asg (.tp (.cons (.nm 4) (.cons (.nm 5) .nil))) (.tup (.cons (.op .add (.int 1) (.call 1 0 (.cons (.loc 0) (.cons (.int 40) .nil)) .nil)) (.cons (.op .add (.int 1) (.call 1 0 (.cons (.loc 0) (.cons (.int 40) .nil)) .nil)) .nil)))) (.cons (.ifS (.cmp .NotEq (.call 11 0 (.cons (.loc 1) (.cons (.bif .tuple (.cons (.comp false [6, 7] (.call 2 0 (.cons (.op .mul (.loc 6) (.loc 4)) (.cons (.op .mul (.loc 7) (.loc 5)) .nil)) .nil) (.tp (.cons (.nm 6) (.cons (.nm 7) .nil))) (.seq (.loc 2)) .nil) .nil)) .nil)) .nil) (.loc 3)) (.cons (.ret (.bl false)) .nil) .nil) (.cons (.asg (.tp (.cons (.nm 8) (.cons (.nm 9) .nil))) (.call 12 0 (.cons (.loc 0) (.cons (.loc 2) .nil)) .nil)) (.cons (.asg (.nm 10) (.call 11 0 (.cons (.loc 1) (.cons (.loc 8) .nil)) .nil)) (.cons (.ifS (.orE (.cmp .NotEq (.comp false [11] (.ix (.loc 10) (.loc 11)) (.nm 11) (.seq (.loc 9)) .nil) (.bif .list (.cons (.loc 3) .nil))) (.cmp .NotEq (.bif .sum (.cons (.loc 10) .nil)) (.loc 1))) (.cons (.ret (.bl false)) .nil) .nil) (.cons (.ifS (.bif .any (.cons (.comp false [12] (.cmp .NotEq (.ix (.loc 10) (.loc 12)) (.int 0)) (.nm 12) (.rg1 (.bif .len (.cons (.loc 8) .nil))) (.cons (.cmp .NotIn (.loc 12) (.loc 9)) .nil)) .nil)) (.cons (.ret (.bl false)) .nil) .nil) (.cons (.asg (.nm 13) (.rev (.call 11 0 (.cons (.loc 1) (.cons (.rev (.loc 2)) .nil)) .nil))) (.cons (.asg (.nm 14) (.comp false [15, 16] (.op .sub (.bif .int (.cons (.cmp .Gt (.loc 15) (.loc 16)) .nil)) (.bif .int (.cons (.cmp .Lt (.loc 15) (.loc 16)) .nil))) (.tp (.cons (.nm 15) (.cons (.nm 16) .nil))) (.zip (.loc 3) (.loc 13)) .nil)) (.cons (.ret (.andE (.cmp .Eq (.bif .sum (.cons (.loc 13) .nil)) (.loc 1)) (.andE (.cmp .Eq (.bif .sum (.cons (.loc 14) .nil)) (.int 0)) (.bif .all (.cons (.comp false [15, 16] (.cmp .Lt (.bif .abs (.cons (.op .sub (.loc 15) (.loc 16)) .nil)) (.int 2)) (.tp (.cons (.nm 15) (.cons (.nm 16) .nil))) (.zip (.loc 3) (.loc 13)) .nil) .nil))))) .nil)))))))))))
theorem m__law_right : mSs ⟨N__law_right, defScope (top 23), fun _ => true, T13, cns, free⟩ b__law_right (defBody (top 23)) = true := by kernel_rfl
theorem s__law_right : C8.scC N__law_right i__law_right.ps (defScope (top 23)) = true := by kernel_rfl
def i__law_whole_right : FnI := ⟨"_law_whole_right", ["pool", "portions"], [⟨2, [], [.p 0, .p 1]⟩]⟩
def T15 : List (Nat × FnI) := (14, i__law_whole_right) :: T14
@[reducible] def N__law_whole_right : List Str := ["pool", "portions", "some", "top", "bottom", "tops", "pence", "ahead", "most", "times", "due", "penny"]
@[reducible] def b__law_whole_right : Ss := (.cons (.asg (.nm 2) (.bif .tuple (.cons (.comp false [3, 4] (.tup (.cons (.loc 3) (.cons (.int 1) .nil))) (.tp (.cons (.nm 3) (.cons (.nm 4) .nil))) (.seq (.loc 1)) .nil) .nil))) (.cons (.asg (.nm 5) (.comp false [3, 4] (.loc 3) (.tp (.cons (.nm 3) (.cons (.nm 4) .nil))) (.seq (.loc 2)) .nil)) (.cons (.ifS (.cmp .NotEq (.call 11 0 (.cons (.bif .sum (.cons (.loc 5) .nil)) (.cons (.loc 2) .nil)) .nil) (.bif .tuple (.cons (.loc 5) .nil))) (.cons (.ret (.bl false)) .nil) .nil) (.cons (.asg (.nm 6) (.call 1 0 (.cons (.loc 0) (.cons (.op .add (.int 1) (.bif .min (.cons (.op .pow (.int 10) (.int 6)) (.cons (.op .mul (.int 3) (.bif .sum (.cons (.loc 5) .nil))) .nil)))) .nil)) .nil)) (.cons (.asg (.nm 7) (.call 11 0 (.cons (.loc 6) (.cons (.loc 2) .nil)) .nil)) (.cons (.asg (.nm 8) (.op .fdiv (.op .sub (.op .pow (.int 10) (.int 12)) (.loc 6)) (.bif .sum (.cons (.loc 5) .nil)))) (.cons (.forS (.nm 9) (.seq (.lst false (.cons (.int 1) (.cons (.int 2) (.cons (.call 1 0 (.cons (.loc 0) (.cons (.op .add (.loc 8) (.int 1)) .nil)) .nil) (.cons (.loc 8) .nil)))))) (.cons (.asg (.nm 10) (.bif .tuple (.cons (.comp false [11, 3] (.op .add (.loc 11) (.op .mul (.loc 9) (.loc 3))) (.tp (.cons (.nm 11) (.cons (.nm 3) .nil))) (.zip (.loc 7) (.loc 5)) .nil) .nil))) (.cons (.ifS (.cmp .NotEq (.call 11 2 .nil (.cons (.op .add (.loc 6) (.op .mul (.loc 9) (.bif .sum (.cons (.loc 5) .nil)))) (.cons (.loc 2) .nil))) (.loc 10)) (.cons (.ret (.bl false)) .nil) .nil) .nil))) (.cons (.ret (.bl true)) .nil))))))))
theorem m__law_whole_right : mSs ⟨N__law_whole_right, defScope (top 22), fun _ => true, T14, cns, free⟩ b__law_whole_right (defBody (top 22)) = true := by kernel_rfl
theorem s__law_whole_right : C8.scC N__law_whole_right i__law_whole_right.ps (defScope (top 22)) = true := by kernel_rfl
def i_law : FnI := ⟨"law", ["script"], [⟨1, [], [.p 0]⟩]⟩
def T16 : List (Nat × FnI) := (15, i_law) :: T15
@[reducible] def N_law : List Str := ["script", "k", "pool", "portions", "pence"]
@[reducible] def b_law : Ss := (.cons (.forS (.nm 1) (.rg1 (.bif .max (.cons (.int 1) (.cons (.bif .min (.cons (.bif .len (.cons (.loc 0) .nil)) (.cons (.int 8) .nil))) .nil)))) (.cons (.asg (.nm 2) (.call 0 0 (.cons (.loc 0) (.cons (.loc 1) .nil)) .nil)) (.cons (.asg (.nm 3) (.call 3 0 (.cons (.loc 2) .nil) .nil)) (.cons (.forS (.nm 4) (.seq (.lst false (.cons (.int 0) (.cons (.int 1) (.cons (.call 1 0 (.cons (.loc 2) (.cons (.int 60) .nil)) .nil) (.cons (.call 1 0 (.cons (.loc 2) (.cons (.op .add (.op .pow (.int 10) (.int 12)) (.int 1)) .nil)) .nil) (.cons (.op .pow (.int 10) (.int 12)) .nil))))))) (.cons (.ifS (.notE (.call 13 0 (.cons (.loc 2) (.cons (.loc 4) (.cons (.loc 3) .nil))) .nil)) (.cons (.ret (.bl false)) .nil) .nil) .nil)) (.cons (.ifS (.notE (.call 14 0 (.cons (.loc 2) (.cons (.loc 3) .nil)) .nil)) (.cons (.ret (.bl false)) .nil) .nil) .nil))))) (.cons (.ret (.bl true)) .nil))
theorem m_law : mSs ⟨N_law, defScope (top 24), fun _ => true, T15, cns, free⟩ b_law (defBody (top 24)) = true := by kernel_rfl
theorem s_law : C8.scC N_law i_law.ps (defScope (top 24)) = true := by kernel_rfl
def shs : List (List Y.Shape) := [i__law_pool.shapes, i__law_take.shapes, i__law_low.shapes, i__law_shares.shapes, i_is_whole.shapes, i_is_between.shapes, i_divisor.shapes, i_is_share.shapes, i_are_shares.shapes, i_parts_by.shapes, i_split_by.shapes, i_parted.shapes, i__law_between.shapes, i__law_right.shapes, i__law_whole_right.shapes, i_law.shapes]
def dd (i : Nat) (x : Str) : He.DefD := ⟨(x, none), x, x, defArgs (top i), defBody (top i), defScope (top i), [], []⟩
def fn : List He.DefD := [dd 17 "_law_pool", dd 18 "_law_take", dd 19 "_law_low", dd 20 "_law_shares", dd 5 "is_whole", dd 6 "is_between", dd 10 "divisor", dd 11 "is_share", dd 12 "are_shares", dd 13 "parts_by", dd 14 "split_by", dd 15 "parted", dd 21 "_law_between", dd 23 "_law_right", dd 22 "_law_whole_right", dd 24 "law"]
def names : List Str := ["_law_pool", "_law_take", "_law_low", "_law_shares", "is_whole", "is_between", "divisor", "is_share", "are_shares", "parts_by", "split_by", "parted", "_law_between", "_law_right", "_law_whole_right", "law"]
def fa : List He.Fa := names.map He.Fa.glo ++ free.map He.Fa.free
abbrev hk : PySem.W.Hook := hookY 4 fa fn cnD
def ob (s : PySem.W.SharedT) : AlY := obsYG 4 fa fn cnD (HandSHeadRun.getT s)
theorem ob_eq (s : PySem.W.SharedT) : ob s = hk.obs s.abs := obsYG_eq (HandSHeadRun.getT_eq s)
theorem run (w : World) : HandSHeadRun.RunEq R (PySem.W.view R.prog [24]) hk ob 3000 ["WordError", "NoSum", "NoShares", "is_whole", "is_between", "MOST_AMOUNT", "MOST_SHARES", "divisor", "is_share", "are_shares", "parts_by", "split_by", "parted", "_law_pool", "_law_take", "_law_low", "_law_shares", "_law_between", "_law_whole_right", "_law_right"] w := by
  intro os
  kernel_rfl
end K03
namespace K03
/-! ### the plain law: pennies by shares -/
def qr (A T t : Nat) : Nat × Bool := (A * t / T, decide (0 < A * t % T))
def give : Nat → List (Nat × Bool) → List Nat
  | _, [] => []
  | l, (q, b) :: r => if 0 < l ∧ b = true then (q + 1) :: give (l - 1) r else q :: give l r
def left : Nat → List (Nat × Bool) → Nat
  | l, [] => l
  | l, (_, b) :: r => if 0 < l ∧ b = true then left (l - 1) r else left l r
theorem give_app : ∀ (p s : List (Nat × Bool)) (l : Nat), give l (p ++ s) = give l p ++ give (left l p) s
  | [], _, _ => rfl
  | (q, b) :: p, s, l => by
    by_cases c : 0 < l ∧ b = true
    · simp only [List.cons_append, give, left, if_pos c, give_app p s]
    · simp only [List.cons_append, give, left, if_neg c, give_app p s]
theorem left_app : ∀ (p s : List (Nat × Bool)) (l : Nat), left l (p ++ s) = left (left l p) s
  | [], _, _ => rfl
  | (q, b) :: p, s, l => by
    by_cases c : 0 < l ∧ b = true
    · simp only [List.cons_append, left, if_pos c, left_app p s]
    · simp only [List.cons_append, left, if_neg c, left_app p s]
theorem give_len : ∀ (p : List (Nat × Bool)) (l : Nat), (give l p).length = p.length
  | [], _ => rfl
  | (q, b) :: p, l => by
    by_cases c : 0 < l ∧ b = true
    · simp only [give, if_pos c, List.length_cons, give_len p]
    · simp only [give, if_neg c, List.length_cons, give_len p]
def basis (L : List (Nat × Bool)) : Nat := (L.map (·.1)).sum
def many (L : List (Nat × Bool)) : Nat := (L.filter (·.2)).length
theorem give_sum : ∀ (L : List (Nat × Bool)) (l : Nat), l ≤ many L → (give l L).sum = basis L + l
  | [], l, h => by
    have : l = 0 := by simpa [many] using h
    subst this; rfl
  | (q, b) :: L, l, h => by
    by_cases c : 0 < l ∧ b = true
    · have hm : many ((q, b) :: L) = many L + 1 := by simp [many, c.2]
      have ih := give_sum L (l - 1) (by omega)
      simp only [give, if_pos c, List.sum_cons, ih, basis, List.map_cons]
      unfold basis at ih
      omega
    · have hm : l ≤ many L := by
        cases b with
        | true => have : l = 0 := by by_cases z : 0 < l; exact absurd ⟨z, rfl⟩ c; omega
                  omega
        | false => simpa [many] using h
      have ih := give_sum L l hm
      simp only [give, if_neg c, List.sum_cons, ih, basis, List.map_cons]
      omega
/-- what the parts' floors lack is less than how many have a rest -/
theorem lack_le (A T : Nat) (hT : 0 < T) : ∀ ts : List Nat, A * ts.sum ≤ T * (basis (ts.map (qr A T)) + many (ts.map (qr A T)))
  | [] => by simp
  | t :: ts => by
    have ih := lack_le A T hT ts
    have e := Nat.div_add_mod (A * t) T
    have lt := Nat.mod_lt (A * t) hT
    have hb : basis ((t :: ts).map (qr A T)) = A * t / T + basis (ts.map (qr A T)) := by simp [basis, qr]
    rw [List.sum_cons, Nat.mul_add, hb]
    by_cases z : 0 < A * t % T
    · have hm : many ((t :: ts).map (qr A T)) = many (ts.map (qr A T)) + 1 := by simp [many, qr, z]
      rw [hm]
      have : T * (A * t / T + basis (ts.map (qr A T)) + (many (ts.map (qr A T)) + 1)) = T * (A * t / T) + T * (basis (ts.map (qr A T)) + many (ts.map (qr A T))) + T := by
        simp only [Nat.mul_add, Nat.mul_one]; omega
      omega
    · have hm : many ((t :: ts).map (qr A T)) = many (ts.map (qr A T)) := by simp [many, qr, z]
      rw [hm]
      have : T * (A * t / T + basis (ts.map (qr A T)) + (many (ts.map (qr A T)))) = T * (A * t / T) + T * (basis (ts.map (qr A T)) + many (ts.map (qr A T))) := by
        simp only [Nat.mul_add]; omega
      omega
theorem basis_le (A T : Nat) : ∀ ts : List Nat, T * basis (ts.map (qr A T)) ≤ A * ts.sum
  | [] => by simp [basis]
  | t :: ts => by
    have ih := basis_le A T ts
    have e := Nat.mul_div_le (A * t) T
    have hb : basis ((t :: ts).map (qr A T)) = A * t / T + basis (ts.map (qr A T)) := by simp [basis, qr]
    rw [List.sum_cons, Nat.mul_add, hb, Nat.mul_add]
    omega
def partsBy (A : Nat) (ts : List Nat) : List Nat := give (A - basis (ts.map (qr A ts.sum))) (ts.map (qr A ts.sum))
theorem basis_le' {A : Nat} {ts : List Nat} (h : 0 < ts.sum) : basis (ts.map (qr A ts.sum)) ≤ A := by
  have := basis_le A ts.sum ts
  rw [Nat.mul_comm A] at this
  exact Nat.le_of_mul_le_mul_left this h
theorem lack_le' {A : Nat} {ts : List Nat} (h : 0 < ts.sum) : A - basis (ts.map (qr A ts.sum)) ≤ many (ts.map (qr A ts.sum)) := by
  have := lack_le A ts.sum h ts
  rw [Nat.mul_comm A] at this
  have := Nat.le_of_mul_le_mul_left this h
  omega
theorem partsBy_sum {A : Nat} {ts : List Nat} (h : 0 < ts.sum) : (partsBy A ts).sum = A := by
  unfold partsBy
  rw [give_sum _ _ (lack_le' h)]
  have := basis_le' (A := A) h
  omega
theorem partsBy_len {A : Nat} {ts : List Nat} : (partsBy A ts).length = ts.length := by unfold partsBy; rw [give_len, List.length_map]
/-- only the ratio counts -/
theorem qr_ratio {A T T' t t' : Nat} (hT : 0 < T) (hT' : 0 < T') (h : t' * T = t * T') : qr A T' t' = qr A T t := by
  have e1 : A * t' * T = A * t * T' := by rw [Nat.mul_assoc, h, Nat.mul_assoc]
  have d : A * t' / T' = A * t / T := by
    rw [← Nat.mul_div_mul_right (A * t') T' hT, ← Nat.mul_div_mul_right (A * t) T hT', e1, Nat.mul_comm T T']
  have m : A * t' % T' * T = A * t % T * T' := by
    rw [← Nat.mul_mod_mul_right, ← Nat.mul_mod_mul_right, e1, Nat.mul_comm T T']
  unfold qr
  rw [d]
  congr 1
  have : (0 < A * t' % T') ↔ (0 < A * t % T) := by
    constructor
    · intro z
      have : 0 < A * t' % T' * T := Nat.mul_pos z hT
      rw [m] at this
      exact Nat.pos_of_mul_pos_right this
    · intro z
      have : 0 < A * t % T * T' := Nat.mul_pos z hT'
      rw [← m] at this
      exact Nat.pos_of_mul_pos_right this
  simp only [this]
end K03
namespace K03
theorem le_sum : ∀ {l : List Nat} {x : Nat}, x ∈ l → x ≤ l.sum
  | y :: l, x, h => by
    rw [List.sum_cons]
    rcases List.mem_cons.mp h with e | h
    · subst e; exact Nat.le_add_right _ _
    · exact Nat.le_trans (le_sum h) (Nat.le_add_left _ _)
theorem sum_prop {α : Type} (f g : α → Nat) (X Y : Nat) : ∀ l : List α, (∀ x ∈ l, g x * X = f x * Y) → (l.map g).sum * X = (l.map f).sum * Y
  | [], _ => by simp
  | x :: l, h => by
    have ih := sum_prop f g X Y l fun y hy => h y (List.mem_cons_of_mem _ hy)
    have e := h x List.mem_cons_self
    simp only [List.map_cons, List.sum_cons, Nat.add_mul, ih, e]
theorem ratio {A X Y T T' t t' : Nat} (hX : 0 < X) (hT : 0 < T) (hT' : 0 < T') (h : t' * X = t * Y) (hs : T' * X = T * Y) : qr A T' t' = qr A T t := by
  refine qr_ratio hT hT' ?_
  have : t' * T * X = t * T' * X := by
    rw [Nat.mul_right_comm, h, Nat.mul_assoc t T' X, hs]
    simp only [Nat.mul_assoc, Nat.mul_comm, Nat.mul_left_comm]
  exact Nat.eq_of_mul_eq_mul_right hX this
theorem pos_prop {X Y T T' : Nat} (hX : 0 < X) (hY : 0 < Y) (hT : 0 < T) (hs : T' * X = T * Y) : 0 < T' := by
  rcases Nat.eq_zero_or_pos T' with z | z
  · rw [z, Nat.zero_mul] at hs
    have := Nat.mul_pos hT hY
    omega
  · exact z
/-- rows of tops in the same ratios have the same parts -/
theorem parts_prop {α : Type} {A : Nat} (f g : α → Nat) (X Y : Nat) {l : List α} (hX : 0 < X) (hY : 0 < Y) (hT : 0 < (l.map f).sum) (h : ∀ x ∈ l, g x * X = f x * Y) : partsBy A (l.map g) = partsBy A (l.map f) := by
  have hs := sum_prop f g X Y l h
  have hT' := pos_prop hX hY hT hs
  have e : (l.map g).map (qr A (l.map g).sum) = (l.map f).map (qr A (l.map f).sum) := by
    rw [List.map_map, List.map_map]
    refine List.map_congr_left fun x hx => ?_
    exact ratio hX hT hT' (h x hx) hs
  unfold partsBy
  rw [e]
/-! ### shares -/
def bot (ps : List (Nat × Nat)) : Nat := ps.foldl (fun b p => b * p.2 / Nat.gcd p.2 b) 1
def tops (ps : List (Nat × Nat)) : List Nat := ps.map fun p => p.1 * (bot ps / p.2)
def splitBy (A : Nat) (ps : List (Nat × Nat)) : List Nat := partsBy A (tops ps)
theorem step_lcm (b p : Nat) : b * p / Nat.gcd p b = Nat.lcm b p := by rw [Nat.gcd_comm]; rfl
theorem bot_from : ∀ (ps : List (Nat × Nat)) (b : Nat), 0 < b → (∀ p ∈ ps, 0 < p.2) → 0 < ps.foldl (fun b p => b * p.2 / Nat.gcd p.2 b) b ∧ b ∣ ps.foldl (fun b p => b * p.2 / Nat.gcd p.2 b) b ∧ ∀ p ∈ ps, p.2 ∣ ps.foldl (fun b p => b * p.2 / Nat.gcd p.2 b) b
  | [], b, hb, _ => ⟨hb, Nat.dvd_refl _, fun p hp => by cases hp⟩
  | q :: ps, b, hb, h => by
    have hq := h q List.mem_cons_self
    have hl : 0 < b * q.2 / Nat.gcd q.2 b := by rw [step_lcm]; exact Nat.lcm_pos hb hq
    obtain ⟨h1, h2, h3⟩ := bot_from ps _ hl fun p hp => h p (List.mem_cons_of_mem _ hp)
    refine ⟨h1, ?_, fun p hp => ?_⟩
    · refine Nat.dvd_trans ?_ h2
      rw [step_lcm]; exact Nat.dvd_lcm_left _ _
    · rcases List.mem_cons.mp hp with e | hp
      · subst e
        refine Nat.dvd_trans ?_ h2
        rw [step_lcm]; exact Nat.dvd_lcm_right _ _
      · exact h3 p hp
theorem bot_pos {ps : List (Nat × Nat)} (h : ∀ p ∈ ps, 0 < p.2) : 0 < bot ps := (bot_from ps 1 Nat.one_pos h).1
theorem bot_dvd {ps : List (Nat × Nat)} (h : ∀ p ∈ ps, 0 < p.2) : ∀ p ∈ ps, p.2 ∣ bot ps := (bot_from ps 1 Nat.one_pos h).2.2
theorem top_mul {B p1 p2 : Nat} (d : p2 ∣ B) : p1 * (B / p2) * p2 = p1 * B := by rw [Nat.mul_assoc, Nat.div_mul_cancel d]
theorem tops_sum {ps : List (Nat × Nat)} (h : ∀ p ∈ ps, 0 < p.2) (e : ∃ p ∈ ps, 0 < p.1) : 0 < (tops ps).sum := by
  obtain ⟨p, hp, z⟩ := e
  have hb := bot_pos h
  have hd := bot_dvd h p hp
  have : 0 < p.1 * (bot ps / p.2) := Nat.mul_pos z (Nat.div_pos (Nat.le_of_dvd hb hd) (h p hp))
  have hm : p.1 * (bot ps / p.2) ∈ tops ps := List.mem_map.mpr ⟨p, hp, rfl⟩
  exact Nat.lt_of_lt_of_le this (le_sum hm)
/-- shares in the same ratios -/
theorem split_prop {α : Type} {A : Nat} {l : List α} (f g : α → Nat × Nat) (a b : Nat) (ha : 0 < a) (hb : 0 < b) (hf : ∀ x ∈ l, 0 < (f x).2) (hg : ∀ x ∈ l, 0 < (g x).2) (hs : ∃ x ∈ l, 0 < (f x).1)
    (h : ∀ x ∈ l, (g x).1 * ((f x).2 * b) = (g x).2 * ((f x).1 * a)) : splitBy A (l.map g) = splitBy A (l.map f) := by
  have hf' : ∀ p ∈ l.map f, 0 < p.2 := fun p hp => by obtain ⟨x, hx, rfl⟩ := List.mem_map.mp hp; exact hf x hx
  have hg' : ∀ p ∈ l.map g, 0 < p.2 := fun p hp => by obtain ⟨x, hx, rfl⟩ := List.mem_map.mp hp; exact hg x hx
  have Bp := bot_pos hf'
  have Bp' := bot_pos hg'
  have T := tops_sum hf' (by obtain ⟨x, hx, z⟩ := hs; exact ⟨f x, List.mem_map_of_mem hx, z⟩)
  unfold splitBy
  unfold tops at T ⊢
  rw [List.map_map] at T
  rw [List.map_map, List.map_map]
  refine parts_prop _ _ (b * bot (l.map f)) (a * bot (l.map g)) (Nat.mul_pos hb Bp) (Nat.mul_pos ha Bp') T fun x hx => ?_
  show (g x).1 * (bot (l.map g) / (g x).2) * (b * bot (l.map f)) = (f x).1 * (bot (l.map f) / (f x).2) * (a * bot (l.map g))
  have e1 := top_mul (p1 := (g x).1) (bot_dvd hg' (g x) (List.mem_map_of_mem hx))
  have e2 := top_mul (p1 := (f x).1) (bot_dvd hf' (f x) (List.mem_map_of_mem hx))
  have e3 := h x hx
  have p1 := hf x hx
  have p2 := hg x hx
  refine Nat.eq_of_mul_eq_mul_right (Nat.mul_pos p2 p1) ?_
  generalize (g x).1 * (bot (l.map g) / (g x).2) = t' at e1 ⊢
  generalize (f x).1 * (bot (l.map f) / (f x).2) = t at e2 ⊢
  generalize bot (l.map f) = B at *
  generalize bot (l.map g) = B' at *
  have c1 : t' * (b * B) * ((g x).2 * (f x).2) = (t' * (g x).2) * ((f x).2 * b) * B := by simp only [Nat.mul_assoc, Nat.mul_comm, Nat.mul_left_comm]
  have c2 : t * (a * B') * ((g x).2 * (f x).2) = (t * (f x).2) * ((g x).2 * (a * B')) := by simp only [Nat.mul_assoc, Nat.mul_comm, Nat.mul_left_comm]
  rw [c1, c2, e1, e2]
  have c3 : (g x).1 * B' * ((f x).2 * b) * B = ((g x).1 * ((f x).2 * b)) * (B' * B) := by simp only [Nat.mul_assoc, Nat.mul_comm, Nat.mul_left_comm]
  rw [c3, e3]
  simp only [Nat.mul_assoc, Nat.mul_comm, Nat.mul_left_comm]
/-! ### reduced -/
def low (p : Nat × Nat) : Nat × Nat := (p.1 / Nat.gcd p.2 p.1, p.2 / Nat.gcd p.2 p.1)
theorem low_ok {p : Nat × Nat} (h : 0 < p.2) : 0 < (low p).2 ∧ Nat.gcd (low p).2 (low p).1 = 1 ∧ (low p).1 * p.2 = (low p).2 * p.1 ∧ (low p).1 ≤ p.1 ∧ (low p).2 ≤ p.2 ∧ (0 < p.1 → 0 < (low p).1) := by
  have hg : 0 < Nat.gcd p.2 p.1 := Nat.gcd_pos_of_pos_left _ h
  have d1 := Nat.gcd_dvd_left p.2 p.1
  have d2 := Nat.gcd_dvd_right p.2 p.1
  refine ⟨Nat.div_pos (Nat.le_of_dvd h d1) hg, ?_, ?_, Nat.div_le_self _ _, Nat.div_le_self _ _, fun z => Nat.div_pos (Nat.le_of_dvd z d2) hg⟩
  · unfold low
    rw [Nat.gcd_div d1 d2, Nat.div_self hg]
  · unfold low
    show p.1 / Nat.gcd p.2 p.1 * p.2 = p.2 / Nat.gcd p.2 p.1 * p.1
    have a1 := Nat.div_mul_cancel d1
    have a2 := Nat.div_mul_cancel d2
    generalize Nat.gcd p.2 p.1 = g at *
    generalize p.1 / g = x at *
    generalize p.2 / g = y at *
    rw [← a1, ← a2]
    simp only [Nat.mul_assoc, Nat.mul_comm, Nat.mul_left_comm]
/-! ### nothing put between -/
def widen {α : Type} (z : α) : List Nat → List α → List α
  | k :: ks, x :: xs => List.replicate k z ++ x :: widen z ks xs
  | _, _ => []
def places : Nat → List Nat → List Nat
  | _, [] => []
  | o, k :: ks => (o + k) :: places (o + k + 1) ks
theorem widen_map {α β : Type} (f : α → β) (z : α) : ∀ (ks : List Nat) (xs : List α), (widen z ks xs).map f = widen (f z) ks (xs.map f)
  | [], _ => rfl
  | _ :: _, [] => rfl
  | k :: ks, x :: xs => by
    unfold widen
    rw [List.map_append, List.map_replicate, List.map_cons, widen_map f z ks xs]; rfl
theorem give_rep : ∀ (k l : Nat) (s : List (Nat × Bool)), give l (List.replicate k (0, false) ++ s) = List.replicate k 0 ++ give l s
  | 0, _, _ => rfl
  | k + 1, l, s => by
    show give l ((0, false) :: (List.replicate k (0, false) ++ s)) = _
    have c : ¬ (0 < l ∧ false = true) := fun h => Bool.false_ne_true h.2
    simp only [give, if_neg c, give_rep k l s, List.replicate_succ, List.cons_append]
theorem give_widen : ∀ (ks : List Nat) (l : Nat) (xs : List (Nat × Bool)), give l (widen (0, false) ks xs) = widen 0 ks (give l xs)
  | [], l, xs => by cases xs <;> simp [widen, give]
  | k :: ks, l, [] => rfl
  | k :: ks, l, (q, b) :: xs => by
    unfold widen
    rw [give_rep]
    by_cases c : 0 < l ∧ b = true
    · simp only [give, if_pos c, give_widen ks]
    · simp only [give, if_neg c, give_widen ks]
theorem basis_widen : ∀ (ks : List Nat) (xs : List (Nat × Bool)), ks.length = xs.length → basis (widen (0, false) ks xs) = basis xs
  | [], [], _ => rfl
  | [], _ :: _, h => by cases h
  | _ :: _, [], h => by cases h
  | k :: ks, x :: xs, h => by
    have ih := basis_widen ks xs (by simpa using h)
    unfold basis at ih ⊢
    unfold widen
    rw [List.map_append, List.map_replicate, List.sum_append, List.map_cons, List.sum_cons, ih]
    simp
theorem sum_widen : ∀ (ks xs : List Nat), ks.length = xs.length → (widen 0 ks xs).sum = xs.sum
  | [], [], _ => rfl
  | [], _ :: _, h => by cases h
  | _ :: _, [], h => by cases h
  | k :: ks, x :: xs, h => by
    have ih := sum_widen ks xs (by simpa using h)
    unfold widen
    rw [List.sum_append, List.sum_cons, ih]
    simp
theorem qr_zero {A T : Nat} : qr A T 0 = (0, false) := by simp [qr]
theorem partsBy_widen {A : Nat} (ks : List Nat) (ts : List Nat) (h : ks.length = ts.length) : partsBy A (widen 0 ks ts) = widen 0 ks (partsBy A ts) := by
  unfold partsBy
  rw [sum_widen ks ts h, widen_map, qr_zero, basis_widen _ _ (by simpa using h), give_widen]
end K03
namespace K03
theorem widen_pos {ks : List Nat} {ps : List (Nat × Nat)} (h : ∀ p ∈ ps, 0 < p.2) : ∀ p ∈ widen (0, 1) ks ps, 0 < p.2 := by
  induction ks generalizing ps with
  | nil => intro p hp; cases ps <;> simp [widen] at hp
  | cons k ks ih =>
    cases ps with
    | nil => intro p hp; simp [widen] at hp
    | cons q ps =>
      intro p hp
      unfold widen at hp
      rcases List.mem_append.mp hp with hp | hp
      · rw [(List.mem_replicate.mp hp).2]; exact Nat.one_pos
      · rcases List.mem_cons.mp hp with e | hp
        · rw [e]; exact h q List.mem_cons_self
        · exact ih (fun p hp => h p (List.mem_cons_of_mem _ hp)) p hp
theorem split_widen {A : Nat} (ks : List Nat) (ps : List (Nat × Nat)) (hl : ks.length = ps.length) (hp : ∀ p ∈ ps, 0 < p.2) (hs : ∃ p ∈ ps, 0 < p.1) (hd : ∀ p ∈ ps, p ∈ widen (0, 1) ks ps) : splitBy A (widen (0, 1) ks ps) = widen 0 ks (splitBy A ps) := by
  have hw := widen_pos (ks := ks) hp
  unfold splitBy
  have e : tops (widen (0, 1) ks ps) = widen 0 ks (ps.map fun p => p.1 * (bot (widen (0, 1) ks ps) / p.2)) := by
    unfold tops
    rw [widen_map]
    simp
  rw [e, partsBy_widen ks _ (by simpa using hl)]
  congr 1
  have T := tops_sum hp hs
  have h1 := bot_dvd hp
  have h2 := bot_dvd hw
  unfold tops at T ⊢
  refine parts_prop _ _ (bot ps) (bot (widen (0, 1) ks ps)) (bot_pos hp) (bot_pos hw) T fun p hpp => ?_
  have e1 := top_mul (p1 := p.1) (h1 p hpp)
  have e2 := top_mul (p1 := p.1) (h2 p (hd p hpp))
  refine Nat.eq_of_mul_eq_mul_right (hp p hpp) ?_
  generalize p.1 * (bot ps / p.2) = t at *
  generalize p.1 * (bot (widen (0, 1) ks ps) / p.2) = t' at *
  rw [Nat.mul_right_comm, e2, Nat.mul_right_comm t, e1]
  simp only [Nat.mul_assoc, Nat.mul_comm, Nat.mul_left_comm]
theorem widen_mem {α : Type} {z : α} : ∀ {ks : List Nat} {xs : List α}, ks.length = xs.length → ∀ x ∈ xs, x ∈ widen z ks xs
  | [], [], _, x, h => by cases h
  | [], _ :: _, e, _, _ => by cases e
  | _ :: _, [], e, _, _ => by cases e
  | k :: ks, y :: xs, e, x, h => by
    unfold widen
    rcases List.mem_cons.mp h with h | h
    · subst h; simp
    · exact List.mem_append_right _ (List.mem_cons_of_mem _ (widen_mem (by simpa using e) x h))
theorem widen_len {α : Type} {z : α} : ∀ {ks : List Nat} {xs : List α}, ks.length = xs.length → (widen z ks xs).length = ks.sum + xs.length
  | [], [], _ => rfl
  | [], _ :: _, e => by cases e
  | _ :: _, [], e => by cases e
  | k :: ks, y :: xs, e => by
    unfold widen
    rw [List.length_append, List.length_replicate, List.length_cons, widen_len (by simpa using e), List.sum_cons, List.length_cons]
    omega
theorem places_get {α : Type} {z : α} : ∀ {ks : List Nat} {xs : List α} (pre : List α), ks.length = xs.length → (places pre.length ks).map (fun i => (pre ++ widen z ks xs)[i]?) = xs.map some
  | [], [], _, _ => rfl
  | [], _ :: _, _, e => by cases e
  | _ :: _, [], _, e => by cases e
  | k :: ks, y :: xs, pre, e => by
    have ih := places_get (z := z) (ks := ks) (xs := xs) (pre ++ (List.replicate k z ++ [y])) (by simpa using e)
    unfold places widen
    rw [List.map_cons, List.map_cons]
    have e1 : (pre ++ (List.replicate k z ++ y :: widen z ks xs))[pre.length + k]? = some y := by
      rw [← List.append_assoc, List.getElem?_append_right (by simp)]
      simp
    rw [e1]
    congr 1
    have e2 : (pre ++ (List.replicate k z ++ [y])).length = pre.length + k + 1 := by simp; omega
    rw [e2] at ih
    have e3 : pre ++ (List.replicate k z ++ [y]) ++ widen z ks xs = pre ++ (List.replicate k z ++ y :: widen z ks xs) := by simp
    rw [e3] at ih
    exact ih
theorem places_not {α : Type} {z : α} : ∀ {ks : List Nat} {xs : List α} (pre : List α), ks.length = xs.length → ∀ i, pre.length ≤ i → i ∉ places pre.length ks → ∀ x, (pre ++ widen z ks xs)[i]? = some x → x = z
  | [], [], pre, _, i, hi, _, x, h => by
    rw [show widen z ([] : List Nat) ([] : List α) = [] from rfl, List.append_nil, List.getElem?_eq_none hi] at h
    cases h
  | [], _ :: _, _, e, _, _, _, _, _ => by cases e
  | _ :: _, [], _, e, _, _, _, _, _ => by cases e
  | k :: ks, y :: xs, pre, e, i, hi, hn, x, h => by
    unfold places at hn
    simp only [List.mem_cons, not_or] at hn
    unfold widen at h
    by_cases c : i < pre.length + k
    · rw [List.getElem?_append_right hi, List.getElem?_append_left (by simp; omega), List.getElem?_replicate] at h
      split at h
      · exact (Option.some.inj h).symm
      · cases h
    · refine places_not (z := z) (ks := ks) (xs := xs) (pre ++ (List.replicate k z ++ [y])) (by simpa using e) i ?_ ?_ x ?_
      · simp; omega
      · have e2 : (pre ++ (List.replicate k z ++ [y])).length = pre.length + k + 1 := by simp; omega
        rw [e2]; exact hn.2
      · have e3 : pre ++ (List.replicate k z ++ [y]) ++ widen z ks xs = pre ++ (List.replicate k z ++ y :: widen z ks xs) := by simp
        rw [e3]; exact h
/-! ### backwards -/
inductive Nr : List Nat → List Nat → Prop
  | nil : Nr [] []
  | cons {x q : Nat} {xs qs : List Nat} : q ≤ x → x ≤ q + 1 → Nr xs qs → Nr (x :: xs) (q :: qs)
theorem Nr.give : ∀ (L : List (Nat × Bool)) (l : Nat), Nr (K03.give l L) (L.map (·.1))
  | [], _ => .nil
  | (q, b) :: L, l => by
    by_cases c : 0 < l ∧ b = true
    · simp only [K03.give, if_pos c, List.map_cons]
      exact .cons (Nat.le_succ _) (Nat.le_refl _) (Nr.give L (l - 1))
    · simp only [K03.give, if_neg c, List.map_cons]
      exact .cons (Nat.le_refl _) (Nat.le_succ _) (Nr.give L l)
theorem Nr.app {a q b r : List Nat} (h : Nr a q) (k : Nr b r) : Nr (a ++ b) (q ++ r) := by
  induction h with
  | nil => exact k
  | cons h1 h2 _ ih => exact .cons h1 h2 ih
theorem Nr.rev {a q : List Nat} (h : Nr a q) : Nr a.reverse q.reverse := by
  induction h with
  | nil => exact .nil
  | cons h1 h2 _ ih => rw [List.reverse_cons, List.reverse_cons]; exact ih.app (.cons h1 h2 .nil)
theorem Nr.near {a b q : List Nat} (h : Nr a q) (k : Nr b q) : a.length = b.length ∧ ∀ p ∈ a.zip b, p.1 ≤ p.2 + 1 ∧ p.2 ≤ p.1 + 1 := by
  induction h generalizing b with
  | nil => cases k; exact ⟨rfl, fun p hp => by cases hp⟩
  | @cons x qq xs qs h1 h2 _ ih =>
    cases k with
    | @cons y _ ys _ k1 k2 k3 =>
      obtain ⟨e, i⟩ := ih k3
      refine ⟨by simp [e], fun p hp => ?_⟩
      rw [List.zip_cons_cons] at hp
      rcases List.mem_cons.mp hp with e | hp
      · subst e; show x ≤ y + 1 ∧ y ≤ x + 1; omega
      · exact i p hp
theorem split_rev {A : Nat} {ps : List (Nat × Nat)} (hp : ∀ p ∈ ps, 0 < p.2) (hs : ∃ p ∈ ps, 0 < p.1) :
    (splitBy A ps).length = (splitBy A ps.reverse).reverse.length ∧ ∀ p ∈ (splitBy A ps).zip (splitBy A ps.reverse).reverse, p.1 ≤ p.2 + 1 ∧ p.2 ≤ p.1 + 1 := by
  have hp' : ∀ p ∈ ps.reverse, 0 < p.2 := fun p h => hp p (List.mem_reverse.mp h)
  have T := tops_sum hp hs
  have h1 := bot_dvd hp
  have h2 := bot_dvd hp'
  have key : (tops ps.reverse).map (qr A (tops ps.reverse).sum) = ((tops ps).map (qr A (tops ps).sum)).reverse := by
    have e : tops ps.reverse = (ps.map fun p => p.1 * (bot ps.reverse / p.2)).reverse := by unfold tops; rw [List.map_reverse]
    have hx : ∀ p ∈ ps, p.1 * (bot ps.reverse / p.2) * bot ps = p.1 * (bot ps / p.2) * bot ps.reverse := fun p hpp => by
      have e1 := top_mul (p1 := p.1) (h1 p hpp)
      have e2 := top_mul (p1 := p.1) (h2 p (List.mem_reverse.mpr hpp))
      refine Nat.eq_of_mul_eq_mul_right (hp p hpp) ?_
      generalize p.1 * (bot ps / p.2) = t at *
      generalize p.1 * (bot ps.reverse / p.2) = t' at *
      rw [Nat.mul_right_comm, e2, Nat.mul_right_comm t, e1]
      simp only [Nat.mul_assoc, Nat.mul_comm, Nat.mul_left_comm]
    have hsum := sum_prop (fun p : Nat × Nat => p.1 * (bot ps / p.2)) (fun p => p.1 * (bot ps.reverse / p.2)) (bot ps) (bot ps.reverse) ps hx
    have T0 : 0 < (ps.map fun p : Nat × Nat => p.1 * (bot ps / p.2)).sum := T
    have hT' := pos_prop (bot_pos hp) (bot_pos hp') T0 hsum
    rw [e, List.sum_reverse, List.map_reverse]
    congr 1
    unfold tops
    rw [List.map_map, List.map_map]
    exact List.map_congr_left fun p hpp => ratio (bot_pos hp) T0 hT' (hx p hpp) hsum
  unfold splitBy partsBy
  rw [key]
  refine Nr.near (Nr.give _ _) ?_
  have := (Nr.give ((tops ps).map (qr A (tops ps).sum)).reverse (A - basis ((tops ps).map (qr A (tops ps).sum)).reverse)).rev
  rw [List.map_reverse, List.reverse_reverse] at this
  exact this
/-! ### whole -/
theorem bot_one : ∀ (ts : List Nat) , bot (ts.map fun t => (t, 1)) = 1 := by
  intro ts
  unfold bot
  induction ts with
  | nil => rfl
  | cons t ts ih => rw [List.map_cons, List.foldl_cons]; simpa using ih
theorem tops_one (ts : List Nat) : tops (ts.map fun t => (t, 1)) = ts := by
  unfold tops
  rw [bot_one, List.map_map]
  exact (List.map_congr_left (g := id) fun t _ => by simp).trans (List.map_id _)
theorem give_zero : ∀ L : List (Nat × Bool), give 0 L = L.map (·.1)
  | [] => rfl
  | (q, b) :: L => by
    have c : ¬ (0 < 0 ∧ b = true) := fun h => absurd h.1 (Nat.lt_irrefl _)
    simp only [give, if_neg c, give_zero L, List.map_cons]
theorem parts_whole {ts : List Nat} (h : 0 < ts.sum) : partsBy ts.sum ts = ts := by
  unfold partsBy
  have e : ts.map (qr ts.sum ts.sum) = ts.map fun t => (t, false) := List.map_congr_left fun t _ => by
    unfold qr
    rw [Nat.mul_div_cancel_left _ h, Nat.mul_mod_right]; rfl
  rw [e]
  have b : basis (ts.map fun t => (t, false)) = ts.sum := by unfold basis; rw [List.map_map]; exact congrArg List.sum (List.map_id _)
  rw [b, Nat.sub_self, give_zero, List.map_map]
  exact List.map_id _
theorem give_more (A T c : Nat) (hT : 0 < T) : ∀ (ts : List Nat) (l : Nat), give l (ts.map (qr (A + c * T) T)) = List.zipWith (fun x t => x + c * t) (give l (ts.map (qr A T))) ts
  | [], _ => rfl
  | t :: ts, l => by
    have e : qr (A + c * T) T t = (A * t / T + c * t, (qr A T t).2) := by
      unfold qr
      have : (A + c * T) * t = A * t + T * (c * t) := by rw [Nat.add_mul]; congr 1; simp only [Nat.mul_assoc, Nat.mul_comm, Nat.mul_left_comm]
      rw [this, Nat.add_mul_div_left _ _ hT, Nat.add_mul_mod_self_left]
    rw [List.map_cons, List.map_cons, e]
    have e0 : qr A T t = (A * t / T, (qr A T t).2) := rfl
    rw [e0]
    by_cases z : 0 < l ∧ (qr A T t).2 = true
    · simp only [give, if_pos z, give_more A T c hT ts, List.zipWith_cons_cons]
      congr 1; omega
    · simp only [give, if_neg z, give_more A T c hT ts, List.zipWith_cons_cons]
theorem basis_more (A T c : Nat) (hT : 0 < T) : ∀ ts : List Nat, basis (ts.map (qr (A + c * T) T)) = basis (ts.map (qr A T)) + c * ts.sum
  | [] => rfl
  | t :: ts => by
    have ih := basis_more A T c hT ts
    have e : (qr (A + c * T) T t).1 = (qr A T t).1 + c * t := by
      unfold qr
      have : (A + c * T) * t = A * t + T * (c * t) := by rw [Nat.add_mul]; congr 1; simp only [Nat.mul_assoc, Nat.mul_comm, Nat.mul_left_comm]
      show (A + c * T) * t / T = A * t / T + c * t
      rw [this, Nat.add_mul_div_left _ _ hT]
    unfold basis at ih ⊢
    simp only [List.map_cons, List.sum_cons, ih, e, Nat.mul_add]
    omega
theorem parts_more {A c : Nat} {ts : List Nat} (h : 0 < ts.sum) : partsBy (A + c * ts.sum) ts = List.zipWith (fun x t => x + c * t) (partsBy A ts) ts := by
  unfold partsBy
  rw [give_more A ts.sum c h, basis_more A ts.sum c h]
  congr 2
  omega
end K03
namespace K03
theorem bot_le (M : Nat) : ∀ (ps : List (Nat × Nat)) (b : Nat), (∀ p ∈ ps, p.2 ≤ M) → ps.foldl (fun b p => b * p.2 / Nat.gcd p.2 b) b ≤ b * M ^ ps.length
  | [], b, _ => by simp
  | q :: ps, b, h => by
    have ih := bot_le M ps (b * q.2 / Nat.gcd q.2 b) fun p hp => h p (List.mem_cons_of_mem _ hp)
    have e : b * q.2 / Nat.gcd q.2 b ≤ b * M := Nat.le_trans (Nat.div_le_self _ _) (Nat.mul_le_mul_left _ (h q List.mem_cons_self))
    rw [List.foldl_cons, List.length_cons, Nat.pow_succ]
    refine Nat.le_trans ih (Nat.le_trans (Nat.mul_le_mul_right _ e) ?_)
    rw [Nat.mul_assoc, Nat.mul_comm M]
    exact Nat.le_refl _
theorem sum_le (M : Nat) : ∀ l : List Nat, (∀ x ∈ l, x ≤ M) → l.sum ≤ l.length * M
  | [], _ => by simp
  | x :: l, h => by
    have ih := sum_le M l fun y hy => h y (List.mem_cons_of_mem _ hy)
    have e := h x List.mem_cons_self
    rw [List.sum_cons, List.length_cons, Nat.add_mul]
    omega
theorem tops_log {ps : List (Nat × Nat)} (hl : ps.length ≤ 64) (h : ∀ p ∈ ps, p.1 < 2 ^ 40 ∧ p.2 < 2 ^ 40) (hp : 0 < (tops ps).sum) : (tops ps).sum.log2 < 9000 := by
  rw [Nat.log2_lt (by omega)]
  have hb : bot ps ≤ (2 ^ 40) ^ 64 := by
    have := bot_le (2 ^ 40) ps 1 fun p hp => Nat.le_of_lt (h p hp).2
    rw [Nat.one_mul] at this
    exact Nat.le_trans this (Nat.pow_le_pow_right (by decide) hl)
  have hs := sum_le (2 ^ 40 * (2 ^ 40) ^ 64) (tops ps) fun x hx => by
    obtain ⟨p, hp, rfl⟩ := List.mem_map.mp hx
    exact Nat.mul_le_mul (Nat.le_of_lt (h p hp).1) (Nat.le_trans (Nat.div_le_self _ _) hb)
  have hlen : (tops ps).length = ps.length := by unfold tops; simp
  rw [hlen] at hs
  refine Nat.lt_of_le_of_lt (Nat.le_trans hs (Nat.mul_le_mul_right _ hl)) ?_
  have e : 64 * (2 ^ 40 * (2 ^ 40) ^ 64) = 2 ^ 2606 := by
    rw [← Nat.pow_mul, ← Nat.pow_add, show (64 : Nat) = 2 ^ 6 from rfl, ← Nat.pow_add]
  rw [e]
  exact Nat.pow_lt_pow_right (by decide) (by decide)
end K03
namespace K03
open Y
open PySem (sizeLine)
open L2 (atI ixN)
@[reducible] def nD (n : Nat) : D := .int n
@[reducible] def shD (p : Nat × Nat) : D := .tup [.int p.1, .int p.2]
def Valid (ps : List (Nat × Nat)) : Prop := (1 ≤ ps.length ∧ ps.length ≤ 64) ∧ (∀ p ∈ ps, 0 < p.2 ∧ Nat.gcd p.2 p.1 = 1 ∧ p.1 < 2 ^ 40 ∧ p.2 < 2 ^ 40) ∧ ∃ p ∈ ps, 0 < p.1
abbrev PoolAt (h : Hd) (a : PySem.Addr) : Prop := ∃ n : Int, h a = some (.lst [.int n])
def S_pool : Y.Spec := fun ds h Q _ => ∃ (is : List Int) (k : Nat), ds = [.scr is, .int k] ∧ k < 8 ∧ ∀ a n, h a = none → Q (.ref a) (hupd h a (.lst [.int n]))
def S_take : Y.Spec := fun ds h Q _ => ∃ (a : PySem.Addr) (n m : Int), ds = [.ref a, .int m] ∧ h a = some (.lst [.int n]) ∧ 0 < m ∧ m < 2 ^ 64 ∧ ∀ (d : Nat) (n' : Int), (d : Int) < m → Q (.int d) (hupd h a (.lst [.int n']))
def S_low : Y.Spec := fun ds h Q _ => ∃ p : Nat × Nat, ds = [.int p.1, .int p.2] ∧ 0 < p.2 ∧ p.2 < 2 ^ 64 ∧ Q (shD (low p)) h
def S_shares : Y.Spec := fun ds h Q _ => ∃ (a : PySem.Addr) (n : Int), ds = [.ref a] ∧ h a = some (.lst [.int n]) ∧ ∀ (ps : List (Nat × Nat)) (n' : Int), Valid ps → ps.length ≤ 10 → (∀ p ∈ ps, p.1 ≤ 10 ^ 6 ∧ p.2 ≤ 10 ^ 6) → Q (.tup (ps.map shD)) (hupd h a (.lst [.int n']))
def S_is_whole : Y.Spec := fun ds h Q _ => ∃ i, ds = [.int i] ∧ Q (.bl true) h
def S_is_between : Y.Spec := fun ds h Q _ => ∃ i l u, ds = [.int i, .int l, .int u] ∧ l ≤ i ∧ i ≤ u ∧ Q (.bl true) h
def S_divisor : Y.Spec := fun ds h Q _ => ∃ a b : Nat, ds = [.int a, .int b] ∧ Q (.int (Nat.gcd b a)) h
def S_is_share : Y.Spec := fun ds h Q _ => ∃ p : Nat × Nat, ds = [shD p] ∧ 0 < p.2 ∧ Nat.gcd p.2 p.1 = 1 ∧ Q (.bl true) h
def S_are_shares : Y.Spec := fun ds h Q _ => ∃ ps, ds = [.tup (ps.map shD)] ∧ Valid ps ∧ Q (.bl true) h
def S_parts_by : Y.Spec := fun ds h Q _ => ∃ (A : Nat) (ts : List Nat), ds = [.int A, .lst (ts.map nD)] ∧ A < 2 ^ 64 ∧ 0 < ts.sum ∧ ts.sum.log2 < 9000 ∧ ts.length ≤ 64 ∧ Q (.tup ((partsBy A ts).map nD)) h
def S_split_by : Y.Spec := fun ds h Q _ => ∃ (A : Nat) (ps : List (Nat × Nat)), ds = [.int A, .tup (ps.map shD)] ∧ A < 2 ^ 64 ∧ Valid ps ∧ Q (.tup ((splitBy A ps).map nD)) h
def S_parted : Y.Spec := fun ds h Q _ => ∃ (A : Nat) (ps : List (Nat × Nat)), ds = [.int A, .tup (ps.map shD)] ∧ A ≤ 10 ^ 12 ∧ Valid ps ∧ Q (.tup ((splitBy A ps).map nD)) h
def S_between : Y.Spec := fun ds h Q _ => ∃ (a : PySem.Addr) (n : Int) (ps : List (Nat × Nat)), ds = [.ref a, .tup (ps.map shD)] ∧ h a = some (.lst [.int n]) ∧ ps.length ≤ 64 ∧ ∀ (ks : List Nat) (n' : Int), ks.length = ps.length → (∀ k ∈ ks, k ≤ 2) → Q (.tup [.tup ((widen (0, 1) ks ps).map shD), .lst ((places 0 ks).map nD)]) (hupd h a (.lst [.int n']))
def S_right : Y.Spec := fun ds h Q _ => ∃ (a : PySem.Addr) (n : Int) (A : Nat) (ps : List (Nat × Nat)), ds = [.ref a, .int A, .tup (ps.map shD)] ∧ h a = some (.lst [.int n]) ∧ A ≤ 10 ^ 12 ∧ Valid ps ∧ ps.length ≤ 10 ∧ (∀ p ∈ ps, p.1 ≤ 10 ^ 6 ∧ p.2 ≤ 10 ^ 6) ∧ ∀ n' : Int, Q (.bl true) (hupd h a (.lst [.int n']))
def S_whole : Y.Spec := fun ds h Q _ => ∃ (a : PySem.Addr) (n : Int) (ps : List (Nat × Nat)), ds = [.ref a, .tup (ps.map shD)] ∧ h a = some (.lst [.int n]) ∧ Valid ps ∧ ps.length ≤ 10 ∧ (∀ p ∈ ps, p.1 ≤ 10 ^ 6 ∧ p.2 ≤ 10 ^ 6) ∧ ∀ n' : Int, Q (.bl true) (hupd h a (.lst [.int n']))
@[reducible] def G : Prg where
  Φ := fun f => match f with
    | 0 => S_pool | 1 => S_take | 2 => S_low | 3 => S_shares | 4 => S_is_whole | 5 => S_is_between | 6 => S_divisor | 7 => S_is_share | 8 => S_are_shares | 9 => S_parts_by | 10 => S_split_by | 11 => S_parted | 12 => S_between | 13 => S_right | 14 => S_whole | _ => lawS 63
  Γ := fun k => match k with
    | 0 => .int 1000000000000 | _ => .int 64
  sh := fun f s => ((shs[f]?).bind fun l => l[s]?).getD ⟨0, [], []⟩
theorem ite_t {b : Bool} {P Q : Prop} (h : b = true) (p : P) : if b = true then P else Q := by rw [if_pos h]; exact p
theorem ite_f {b : Bool} {P Q : Prop} (h : b = false) (p : Q) : if b = true then P else Q := by rw [if_neg (by rw [h]; exact Bool.false_ne_true)]; exact p
theorem seqA_ref {h : Hd} {a : PySem.Addr} {l : List D} (e : h a = some (.lst l)) : seqA h (.ref a) = some l := by unfold seqA seqL; dsimp only; rw [e]
theorem seqL_ref {h : Hd} {a : PySem.Addr} {l : List D} (e : h a = some (.lst l)) : seqL h (.ref a) = some l := by unfold seqL; dsimp only; rw [e]
theorem atI_0 {α : Type} (x : α) (xs : List α) : atI (x :: xs) 0 = some x := by
  unfold atI ixN
  rw [if_pos (by decide), if_pos (by simp)]; rfl
theorem atI_1 {α : Type} (x y : α) (xs : List α) : atI (x :: y :: xs) 1 = some y := by
  unfold atI ixN
  rw [if_pos (by decide), if_pos (by simp; omega)]; rfl
theorem call_1_0 {x y : D} {h : Hd} {Q : QD} {X : QX} (q : S_take [x, y] h Q X) : callD G 1 0 [x, y] [] h Q X := ⟨rfl, rfl, q⟩
theorem call_2_0 {x y : D} {h : Hd} {Q : QD} {X : QX} (q : S_low [x, y] h Q X) : callD G 2 0 [x, y] [] h Q X := ⟨rfl, rfl, q⟩
theorem call_3_0 {x : D} {h : Hd} {Q : QD} {X : QX} (q : S_shares [x] h Q X) : callD G 3 0 [x] [] h Q X := ⟨rfl, rfl, q⟩
theorem call_4_0 {x : D} {h : Hd} {Q : QD} {X : QX} (q : S_is_whole [x] h Q X) : callD G 4 0 [x] [] h Q X := ⟨rfl, rfl, q⟩
theorem call_5_0 {x y z : D} {h : Hd} {Q : QD} {X : QX} (q : S_is_between [x, y, z] h Q X) : callD G 5 0 [x, y, z] [] h Q X := ⟨rfl, rfl, q⟩
theorem call_6_0 {x y : D} {h : Hd} {Q : QD} {X : QX} (q : S_divisor [x, y] h Q X) : callD G 6 0 [x, y] [] h Q X := ⟨rfl, rfl, q⟩
theorem call_7_0 {x : D} {h : Hd} {Q : QD} {X : QX} (q : S_is_share [x] h Q X) : callD G 7 0 [x] [] h Q X := ⟨rfl, rfl, q⟩
theorem call_8_0 {x : D} {h : Hd} {Q : QD} {X : QX} (q : S_are_shares [x] h Q X) : callD G 8 0 [x] [] h Q X := ⟨rfl, rfl, q⟩
theorem call_9_0 {x y : D} {h : Hd} {Q : QD} {X : QX} (q : S_parts_by [x, y] h Q X) : callD G 9 0 [x, y] [] h Q X := ⟨rfl, rfl, q⟩
theorem call_10_0 {x y : D} {h : Hd} {Q : QD} {X : QX} (q : S_split_by [x, y] h Q X) : callD G 10 0 [x, y] [] h Q X := ⟨rfl, rfl, q⟩
theorem call_11_0 {x y : D} {h : Hd} {Q : QD} {X : QX} (q : S_parted [x, y] h Q X) : callD G 11 0 [x, y] [] h Q X := ⟨rfl, rfl, q⟩
theorem call_12_0 {x y : D} {h : Hd} {Q : QD} {X : QX} (q : S_between [x, y] h Q X) : callD G 12 0 [x, y] [] h Q X := ⟨rfl, rfl, q⟩
theorem call_13_0 {x y z : D} {h : Hd} {Q : QD} {X : QX} (q : S_right [x, y, z] h Q X) : callD G 13 0 [x, y, z] [] h Q X := ⟨rfl, rfl, q⟩
theorem call_14_0 {x y : D} {h : Hd} {Q : QD} {X : QX} (q : S_whole [x, y] h Q X) : callD G 14 0 [x, y] [] h Q X := ⟨rfl, rfl, q⟩
theorem call_0_0 {x y : D} {h : Hd} {Q : QD} {X : QX} (q : S_pool [x, y] h Q X) : callD G 0 0 [x, y] [] h Q X := ⟨rfl, rfl, q⟩
theorem call_11_1 {x y : D} {h : Hd} {Q : QD} {X : QX} (q : S_parted [y, x] h Q X) : callD G 11 1 [] [x, y] h Q X := ⟨rfl, rfl, q⟩
theorem call_11_2 {x y : D} {h : Hd} {Q : QD} {X : QX} (q : S_parted [x, y] h Q X) : callD G 11 2 [] [x, y] h Q X := ⟨rfl, rfl, q⟩
theorem blsOf_fun {α : Type} {f : α → Bool} : ∀ l : List α, blsOf (l.map fun a => D.bl (f a)) = some (l.map f)
  | [] => rfl
  | a :: l => by rw [List.map_cons, blsOf, blsOf_fun l]; rfl
theorem sum_nD : ∀ ns : List Nat, intsOf (ns.map nD) = some (ns.map fun n : Nat => (n : Int))
  | [] => rfl
  | n :: ns => by rw [List.map_cons, nD, intsOf, sum_nD ns]; rfl
theorem sum_cast : ∀ ns : List Nat, (ns.map fun n : Nat => (n : Int)).sum = ((ns.sum : Nat) : Int)
  | [] => rfl
  | n :: ns => by rw [List.map_cons, List.sum_cons, sum_cast ns, List.sum_cons]; rfl
theorem w_is_whole : Meets G N_is_whole 1 b_is_whole S_is_whole := by
  rintro ds h Q Xd - ⟨i, rfl, hQ⟩
  exact hQ
theorem w_divisor : Meets G N_divisor 2 b_divisor S_divisor := by
  rintro ds h Q Xd - ⟨a, b, rfl, hQ⟩
  refine loopW_rule (fun b' ρ h' => ∃ a' : Nat, ρ = [some (.int a'), some (.int (b' : Nat))] ∧ h' = h ∧ Nat.gcd b' a' = Nat.gcd b a) (m := b) ⟨a, rfl, rfl, rfl⟩ ?_
  rintro b' ρ h' K ⟨a', rfl, rfl, hg⟩ hK
  show if decide ((0 : Int) < b') = true then _ else _
  by_cases hb : (0 : Int) < b'
  · rw [if_pos (by simpa using hb)]
    refine ⟨hb, ?_⟩
    refine hK (a' % b') _ _ (Nat.mod_lt _ (by omega)) ⟨b', rfl, rfl, ?_⟩
    rw [← hg, Nat.gcd_rec b' a']
  · rw [if_neg (by simpa using hb)]
    have : b' = 0 := by omega
    subst this
    rw [Nat.gcd_zero_left] at hg
    show Q (.int a') _
    rw [hg]
    exact hQ
theorem w_low : Meets G N__law_low 2 b__law_low S_low := by
  rintro ds h Q Xd - ⟨⟨t, b⟩, rfl, hb, hb2, hQ⟩
  refine loopW_rule (fun b' ρ h' => ∃ a' : Nat, ρ = [some (.int t), some (.int b), some (.int a'), some (.int (b' : Nat))] ∧ h' = h ∧ Nat.gcd b' a' = Nat.gcd b t) (m := b) ⟨t, rfl, rfl, rfl⟩ ?_
  rintro b' ρ h' K ⟨a', rfl, rfl, hg⟩ hK
  show if decide ((0 : Int) < b') = true then _ else _
  by_cases hb' : (0 : Int) < b'
  · rw [if_pos (by simpa using hb')]
    refine ⟨hb', ?_⟩
    refine hK (a' % b') _ _ (Nat.mod_lt _ (by omega)) ⟨b', rfl, rfl, ?_⟩
    rw [← hg, Nat.gcd_rec b' a']
  · rw [if_neg (by simpa using hb')]
    have : b' = 0 := by omega
    subst this
    rw [Nat.gcd_zero_left] at hg
    subst hg
    have hg : 0 < Nat.gcd b t := Nat.gcd_pos_of_pos_left _ hb
    have hle : Nat.gcd b t ≤ b := Nat.le_of_dvd hb (Nat.gcd_dvd_left _ _)
    have hd : DivOk ((Nat.gcd b t : Nat) : Int) := by
      refine ⟨by omega, ?_⟩
      rw [Int.natAbs_natCast]
      have : Nat.log2 (Nat.gcd b t) < 64 := (Nat.log2_lt (by omega)).mpr (by omega)
      omega
    exact ⟨hd, hd, (by decide : 2 ≤ sizeLine), hQ⟩
theorem w_is_between : Meets G N_is_between 3 b_is_between S_is_between := by
  rintro ds h Q Xd - ⟨i, l, u, rfl, h1, h2, hQ⟩
  (with_reducible conv => whnf); repeat ((first | refine ite_t rfl ?_ | refine ite_f rfl ?_ | rw [atI_0] | rw [atI_1] | refine call_1_0 ?_ | refine call_2_0 ?_ | refine call_3_0 ?_ | refine call_4_0 ?_ | refine call_5_0 ?_ | refine call_6_0 ?_ | refine call_7_0 ?_ | refine call_8_0 ?_ | refine call_9_0 ?_ | refine call_10_0 ?_ | refine call_11_0 ?_ | refine call_12_0 ?_ | refine call_13_0 ?_ | refine call_14_0 ?_ | refine call_0_0 ?_ | refine call_11_1 ?_ | refine call_11_2 ?_); (with_reducible conv => whnf))
  refine ⟨i, rfl, ?_⟩
  (with_reducible conv => whnf); repeat ((first | refine ite_t rfl ?_ | refine ite_f rfl ?_ | rw [atI_0] | rw [atI_1] | refine call_1_0 ?_ | refine call_2_0 ?_ | refine call_3_0 ?_ | refine call_4_0 ?_ | refine call_5_0 ?_ | refine call_6_0 ?_ | refine call_7_0 ?_ | refine call_8_0 ?_ | refine call_9_0 ?_ | refine call_10_0 ?_ | refine call_11_0 ?_ | refine call_12_0 ?_ | refine call_13_0 ?_ | refine call_14_0 ?_ | refine call_0_0 ?_ | refine call_11_1 ?_ | refine call_11_2 ?_); (with_reducible conv => whnf))
  refine ite_t (by simpa using h1) ?_
  (with_reducible conv => whnf); repeat ((first | refine ite_t rfl ?_ | refine ite_f rfl ?_ | rw [atI_0] | rw [atI_1] | refine call_1_0 ?_ | refine call_2_0 ?_ | refine call_3_0 ?_ | refine call_4_0 ?_ | refine call_5_0 ?_ | refine call_6_0 ?_ | refine call_7_0 ?_ | refine call_8_0 ?_ | refine call_9_0 ?_ | refine call_10_0 ?_ | refine call_11_0 ?_ | refine call_12_0 ?_ | refine call_13_0 ?_ | refine call_14_0 ?_ | refine call_0_0 ?_ | refine call_11_1 ?_ | refine call_11_2 ?_); (with_reducible conv => whnf))
  rw [show decide (i ≤ u) = true from by simpa using h2]
  exact hQ
theorem w_is_share : Meets G N_is_share 1 b_is_share S_is_share := by
  rintro ds h Q Xd - ⟨⟨t, b⟩, rfl, h1, h2, hQ⟩
  have b1 : 0 < b := h1
  (with_reducible conv => whnf); repeat ((first | refine ite_t rfl ?_ | refine ite_f rfl ?_ | rw [atI_0] | rw [atI_1] | refine call_1_0 ?_ | refine call_2_0 ?_ | refine call_3_0 ?_ | refine call_4_0 ?_ | refine call_5_0 ?_ | refine call_6_0 ?_ | refine call_7_0 ?_ | refine call_8_0 ?_ | refine call_9_0 ?_ | refine call_10_0 ?_ | refine call_11_0 ?_ | refine call_12_0 ?_ | refine call_13_0 ?_ | refine call_14_0 ?_ | refine call_0_0 ?_ | refine call_11_1 ?_ | refine call_11_2 ?_); (with_reducible conv => whnf))
  refine ⟨t, rfl, ?_⟩
  (with_reducible conv => whnf); repeat ((first | refine ite_t rfl ?_ | refine ite_f rfl ?_ | rw [atI_0] | rw [atI_1] | refine call_1_0 ?_ | refine call_2_0 ?_ | refine call_3_0 ?_ | refine call_4_0 ?_ | refine call_5_0 ?_ | refine call_6_0 ?_ | refine call_7_0 ?_ | refine call_8_0 ?_ | refine call_9_0 ?_ | refine call_10_0 ?_ | refine call_11_0 ?_ | refine call_12_0 ?_ | refine call_13_0 ?_ | refine call_14_0 ?_ | refine call_0_0 ?_ | refine call_11_1 ?_ | refine call_11_2 ?_); (with_reducible conv => whnf))
  refine ⟨b, rfl, ?_⟩
  (with_reducible conv => whnf); repeat ((first | refine ite_t rfl ?_ | refine ite_f rfl ?_ | rw [atI_0] | rw [atI_1] | refine call_1_0 ?_ | refine call_2_0 ?_ | refine call_3_0 ?_ | refine call_4_0 ?_ | refine call_5_0 ?_ | refine call_6_0 ?_ | refine call_7_0 ?_ | refine call_8_0 ?_ | refine call_9_0 ?_ | refine call_10_0 ?_ | refine call_11_0 ?_ | refine call_12_0 ?_ | refine call_13_0 ?_ | refine call_14_0 ?_ | refine call_0_0 ?_ | refine call_11_1 ?_ | refine call_11_2 ?_); (with_reducible conv => whnf))
  refine ite_t (by simp; omega) ?_
  (with_reducible conv => whnf); repeat ((first | refine ite_t rfl ?_ | refine ite_f rfl ?_ | rw [atI_0] | rw [atI_1] | refine call_1_0 ?_ | refine call_2_0 ?_ | refine call_3_0 ?_ | refine call_4_0 ?_ | refine call_5_0 ?_ | refine call_6_0 ?_ | refine call_7_0 ?_ | refine call_8_0 ?_ | refine call_9_0 ?_ | refine call_10_0 ?_ | refine call_11_0 ?_ | refine call_12_0 ?_ | refine call_13_0 ?_ | refine call_14_0 ?_ | refine call_0_0 ?_ | refine call_11_1 ?_ | refine call_11_2 ?_); (with_reducible conv => whnf))
  refine ⟨b, t, rfl, ?_⟩
  (with_reducible conv => whnf); repeat ((first | refine ite_t rfl ?_ | refine ite_f rfl ?_ | rw [atI_0] | rw [atI_1] | refine call_1_0 ?_ | refine call_2_0 ?_ | refine call_3_0 ?_ | refine call_4_0 ?_ | refine call_5_0 ?_ | refine call_6_0 ?_ | refine call_7_0 ?_ | refine call_8_0 ?_ | refine call_9_0 ?_ | refine call_10_0 ?_ | refine call_11_0 ?_ | refine call_12_0 ?_ | refine call_13_0 ?_ | refine call_14_0 ?_ | refine call_0_0 ?_ | refine call_11_1 ?_ | refine call_11_2 ?_); (with_reducible conv => whnf))
  have e : Nat.gcd t b = 1 := by rw [Nat.gcd_comm]; exact h2
  rw [e]
  exact hQ
theorem w_take : Meets G N__law_take 2 b__law_take S_take := by
  rintro ds h Q Xd - ⟨a, n, m, rfl, hp, h1, h2, hQ⟩
  have hd : DivOk m := by
    refine ⟨h1, ?_⟩
    have : Nat.log2 m.natAbs < 64 := (Nat.log2_lt (by omega)).mpr (by omega)
    omega
  have g := hQ (n % m).toNat (n / m) (by have := Int.emod_nonneg n (by omega : m ≠ 0); have := Int.emod_lt_of_pos n h1; omega)
  have c : (((n % m).toNat : Nat) : Int) = n % m := by have := Int.emod_nonneg n (by omega : m ≠ 0); omega
  rw [c] at g
  (with_reducible conv => whnf); repeat ((first | refine ite_t rfl ?_ | refine ite_f rfl ?_ | rw [atI_0] | rw [atI_1] | refine call_1_0 ?_ | refine call_2_0 ?_ | refine call_3_0 ?_ | refine call_4_0 ?_ | refine call_5_0 ?_ | refine call_6_0 ?_ | refine call_7_0 ?_ | refine call_8_0 ?_ | refine call_9_0 ?_ | refine call_10_0 ?_ | refine call_11_0 ?_ | refine call_12_0 ?_ | refine call_13_0 ?_ | refine call_14_0 ?_ | refine call_0_0 ?_ | refine call_11_1 ?_ | refine call_11_2 ?_); (with_reducible conv => whnf))
  rw [seqA_ref hp]
  (with_reducible conv => whnf); repeat ((first | refine ite_t rfl ?_ | refine ite_f rfl ?_ | rw [atI_0] | rw [atI_1] | refine call_1_0 ?_ | refine call_2_0 ?_ | refine call_3_0 ?_ | refine call_4_0 ?_ | refine call_5_0 ?_ | refine call_6_0 ?_ | refine call_7_0 ?_ | refine call_8_0 ?_ | refine call_9_0 ?_ | refine call_10_0 ?_ | refine call_11_0 ?_ | refine call_12_0 ?_ | refine call_13_0 ?_ | refine call_14_0 ?_ | refine call_0_0 ?_ | refine call_11_1 ?_ | refine call_11_2 ?_); (with_reducible conv => whnf))
  refine ⟨hd, rfl, ?_⟩
  (with_reducible conv => whnf); repeat ((first | refine ite_t rfl ?_ | refine ite_f rfl ?_ | rw [atI_0] | rw [atI_1] | refine call_1_0 ?_ | refine call_2_0 ?_ | refine call_3_0 ?_ | refine call_4_0 ?_ | refine call_5_0 ?_ | refine call_6_0 ?_ | refine call_7_0 ?_ | refine call_8_0 ?_ | refine call_9_0 ?_ | refine call_10_0 ?_ | refine call_11_0 ?_ | refine call_12_0 ?_ | refine call_13_0 ?_ | refine call_14_0 ?_ | refine call_0_0 ?_ | refine call_11_1 ?_ | refine call_11_2 ?_); (with_reducible conv => whnf))
  rw [hp]
  (with_reducible conv => whnf); repeat ((first | refine ite_t rfl ?_ | refine ite_f rfl ?_ | rw [atI_0] | rw [atI_1] | refine call_1_0 ?_ | refine call_2_0 ?_ | refine call_3_0 ?_ | refine call_4_0 ?_ | refine call_5_0 ?_ | refine call_6_0 ?_ | refine call_7_0 ?_ | refine call_8_0 ?_ | refine call_9_0 ?_ | refine call_10_0 ?_ | refine call_11_0 ?_ | refine call_12_0 ?_ | refine call_13_0 ?_ | refine call_14_0 ?_ | refine call_0_0 ?_ | refine call_11_1 ?_ | refine call_11_2 ?_); (with_reducible conv => whnf))
  exact g
theorem len_ok {n : Nat} (h : n ≤ 64) : n ≤ sizeLine := Nat.le_trans h (by decide)
theorem w_are_shares : Meets G N_are_shares 1 b_are_shares S_are_shares := by
  rintro ds h Q Xd - ⟨ps, rfl, hv, hQ⟩
  obtain ⟨⟨v1, v2⟩, v3, v4⟩ := hv
  (with_reducible conv => whnf); repeat ((first | refine ite_t rfl ?_ | refine ite_f rfl ?_ | rw [atI_0] | rw [atI_1] | refine call_1_0 ?_ | refine call_2_0 ?_ | refine call_3_0 ?_ | refine call_4_0 ?_ | refine call_5_0 ?_ | refine call_6_0 ?_ | refine call_7_0 ?_ | refine call_8_0 ?_ | refine call_9_0 ?_ | refine call_10_0 ?_ | refine call_11_0 ?_ | refine call_12_0 ?_ | refine call_13_0 ?_ | refine call_14_0 ?_ | refine call_0_0 ?_ | refine call_11_1 ?_ | refine call_11_2 ?_); (with_reducible conv => whnf))
  refine ite_t (by rw [List.length_map]; simp; omega) ?_
  (with_reducible conv => whnf); repeat ((first | refine ite_t rfl ?_ | refine ite_f rfl ?_ | rw [atI_0] | rw [atI_1] | refine call_1_0 ?_ | refine call_2_0 ?_ | refine call_3_0 ?_ | refine call_4_0 ?_ | refine call_5_0 ?_ | refine call_6_0 ?_ | refine call_7_0 ?_ | refine call_8_0 ?_ | refine call_9_0 ?_ | refine call_10_0 ?_ | refine call_11_0 ?_ | refine call_12_0 ?_ | refine call_13_0 ?_ | refine call_14_0 ?_ | refine call_0_0 ?_ | refine call_11_1 ?_ | refine call_11_2 ?_); (with_reducible conv => whnf))
  refine ite_f (by rw [List.length_map]; simp; omega) ?_
  (with_reducible conv => whnf); repeat ((first | refine ite_t rfl ?_ | refine ite_f rfl ?_ | rw [atI_0] | rw [atI_1] | refine call_1_0 ?_ | refine call_2_0 ?_ | refine call_3_0 ?_ | refine call_4_0 ?_ | refine call_5_0 ?_ | refine call_6_0 ?_ | refine call_7_0 ?_ | refine call_8_0 ?_ | refine call_9_0 ?_ | refine call_10_0 ?_ | refine call_11_0 ?_ | refine call_12_0 ?_ | refine call_13_0 ?_ | refine call_14_0 ?_ | refine call_0_0 ?_ | refine call_11_1 ?_ | refine call_11_2 ?_); (with_reducible conv => whnf))
  intro A hA
  refine loopC_map (fun _ => .bl true) (len_ok v2) (fun p hp K k => ?_) ?_
  · obtain ⟨e1, e2, _⟩ := v3 p hp
    (with_reducible conv => whnf); repeat ((first | refine ite_t rfl ?_ | refine ite_f rfl ?_ | rw [atI_0] | rw [atI_1] | refine call_1_0 ?_ | refine call_2_0 ?_ | refine call_3_0 ?_ | refine call_4_0 ?_ | refine call_5_0 ?_ | refine call_6_0 ?_ | refine call_7_0 ?_ | refine call_8_0 ?_ | refine call_9_0 ?_ | refine call_10_0 ?_ | refine call_11_0 ?_ | refine call_12_0 ?_ | refine call_13_0 ?_ | refine call_14_0 ?_ | refine call_0_0 ?_ | refine call_11_1 ?_ | refine call_11_2 ?_); (with_reducible conv => whnf))
    exact ⟨p, rfl, e1, e2, k⟩
  (with_reducible conv => whnf); repeat ((first | refine ite_t rfl ?_ | refine ite_f rfl ?_ | rw [atI_0] | rw [atI_1] | refine call_1_0 ?_ | refine call_2_0 ?_ | refine call_3_0 ?_ | refine call_4_0 ?_ | refine call_5_0 ?_ | refine call_6_0 ?_ | refine call_7_0 ?_ | refine call_8_0 ?_ | refine call_9_0 ?_ | refine call_10_0 ?_ | refine call_11_0 ?_ | refine call_12_0 ?_ | refine call_13_0 ?_ | refine call_14_0 ?_ | refine call_0_0 ?_ | refine call_11_1 ?_ | refine call_11_2 ?_); (with_reducible conv => whnf))
  rw [blsOf_fun (f := fun _ => true)]
  (with_reducible conv => whnf); repeat ((first | refine ite_t rfl ?_ | refine ite_f rfl ?_ | rw [atI_0] | rw [atI_1] | refine call_1_0 ?_ | refine call_2_0 ?_ | refine call_3_0 ?_ | refine call_4_0 ?_ | refine call_5_0 ?_ | refine call_6_0 ?_ | refine call_7_0 ?_ | refine call_8_0 ?_ | refine call_9_0 ?_ | refine call_10_0 ?_ | refine call_11_0 ?_ | refine call_12_0 ?_ | refine call_13_0 ?_ | refine call_14_0 ?_ | refine call_0_0 ?_ | refine call_11_1 ?_ | refine call_11_2 ?_); (with_reducible conv => whnf))
  refine ite_f (by simp) ?_
  (with_reducible conv => whnf); repeat ((first | refine ite_t rfl ?_ | refine ite_f rfl ?_ | rw [atI_0] | rw [atI_1] | refine call_1_0 ?_ | refine call_2_0 ?_ | refine call_3_0 ?_ | refine call_4_0 ?_ | refine call_5_0 ?_ | refine call_6_0 ?_ | refine call_7_0 ?_ | refine call_8_0 ?_ | refine call_9_0 ?_ | refine call_10_0 ?_ | refine call_11_0 ?_ | refine call_12_0 ?_ | refine call_13_0 ?_ | refine call_14_0 ?_ | refine call_0_0 ?_ | refine call_11_1 ?_ | refine call_11_2 ?_); (with_reducible conv => whnf))
  rw [hdel_hupd hA]
  intro A hA
  refine loopC_map (fun p => .bl (decide ((0 : Int) < p.1))) (len_ok v2) (fun p hp K k => ?_) ?_
  · (with_reducible conv => whnf); repeat ((first | refine ite_t rfl ?_ | refine ite_f rfl ?_ | rw [atI_0] | rw [atI_1] | refine call_1_0 ?_ | refine call_2_0 ?_ | refine call_3_0 ?_ | refine call_4_0 ?_ | refine call_5_0 ?_ | refine call_6_0 ?_ | refine call_7_0 ?_ | refine call_8_0 ?_ | refine call_9_0 ?_ | refine call_10_0 ?_ | refine call_11_0 ?_ | refine call_12_0 ?_ | refine call_13_0 ?_ | refine call_14_0 ?_ | refine call_0_0 ?_ | refine call_11_1 ?_ | refine call_11_2 ?_); (with_reducible conv => whnf))
    exact k
  (with_reducible conv => whnf); repeat ((first | refine ite_t rfl ?_ | refine ite_f rfl ?_ | rw [atI_0] | rw [atI_1] | refine call_1_0 ?_ | refine call_2_0 ?_ | refine call_3_0 ?_ | refine call_4_0 ?_ | refine call_5_0 ?_ | refine call_6_0 ?_ | refine call_7_0 ?_ | refine call_8_0 ?_ | refine call_9_0 ?_ | refine call_10_0 ?_ | refine call_11_0 ?_ | refine call_12_0 ?_ | refine call_13_0 ?_ | refine call_14_0 ?_ | refine call_0_0 ?_ | refine call_11_1 ?_ | refine call_11_2 ?_); (with_reducible conv => whnf))
  rw [blsOf_fun (f := fun p : Nat × Nat => decide ((0 : Int) < p.1)), hdel_hupd hA]
  (with_reducible conv => whnf); repeat ((first | refine ite_t rfl ?_ | refine ite_f rfl ?_ | rw [atI_0] | rw [atI_1] | refine call_1_0 ?_ | refine call_2_0 ?_ | refine call_3_0 ?_ | refine call_4_0 ?_ | refine call_5_0 ?_ | refine call_6_0 ?_ | refine call_7_0 ?_ | refine call_8_0 ?_ | refine call_9_0 ?_ | refine call_10_0 ?_ | refine call_11_0 ?_ | refine call_12_0 ?_ | refine call_13_0 ?_ | refine call_14_0 ?_ | refine call_0_0 ?_ | refine call_11_1 ?_ | refine call_11_2 ?_); (with_reducible conv => whnf))
  have e : List.any (ps.map fun p : Nat × Nat => decide ((0 : Int) < p.1)) id = true := by
    obtain ⟨p, hp, z⟩ := v4
    rw [List.any_eq_true]
    exact ⟨true, List.mem_map.mpr ⟨p, hp, by simpa using z⟩, rfl⟩
  rw [e]
  exact hQ
theorem zip_split {ts : List Nat} {pre suf : List (Nat × Nat)} {t i : Nat} (e : ts.zipIdx = pre ++ (t, i) :: suf) : i = pre.length ∧ ts = pre.map (·.1) ++ t :: suf.map (·.1) := by
  constructor
  · have h : (ts.zipIdx)[pre.length]? = some (t, i) := by rw [e]; simp
    rw [List.getElem?_zipIdx] at h
    cases q : ts[pre.length]? with
    | none => rw [q] at h; cases h
    | some x => rw [q] at h; simp at h; omega
  · have h := congrArg (List.map (·.1)) e
    simpa using h
theorem enum_nD (ts : List Nat) : enumD (ts.map nD) = ts.zipIdx.map fun p => .tup [.int p.2, nD p.1] := by
  unfold enumD
  rw [List.zipIdx_map, List.map_map]
  rfl
theorem atI_mid {α : Type} {xs zs : List α} {y : α} {n : Nat} (h : n = xs.length) : atI (xs ++ y :: zs) (n : Int) = some y ∧ ixN (xs ++ y :: zs).length (n : Int) = some n := by
  subst h
  have e : ixN (xs ++ y :: zs).length (xs.length : Int) = some xs.length := by
    unfold ixN
    rw [if_pos (by omega), if_pos (by simp; omega)]; simp
  refine ⟨?_, e⟩
  unfold atI
  rw [e]
  simp
theorem map_nD {α : Type} (f : α → Nat) (l : List α) : (l.map fun a => nD (f a)) = (l.map f).map nD := by rw [List.map_map]; rfl
theorem basis_eq (A T : Nat) (ts : List Nat) : (ts.map fun t => A * t / T).sum = basis (ts.map (qr A T)) := by unfold basis; rw [List.map_map]; rfl
theorem set_mid {α : Type} {xs zs : List α} {y z : α} {n : Nat} (h : n = xs.length) : (xs ++ y :: zs).set n z = xs ++ z :: zs := by subst h; simp
theorem w_parts_by : Meets G N_parts_by 2 b_parts_by S_parts_by := by
  rintro ds h Q Xd - ⟨A, ts, rfl, hA, hT, hlog, hlen, hQ⟩
  (with_reducible conv => whnf); repeat ((first | refine ite_t rfl ?_ | refine ite_f rfl ?_ | rw [atI_0] | rw [atI_1] | refine call_1_0 ?_ | refine call_2_0 ?_ | refine call_3_0 ?_ | refine call_4_0 ?_ | refine call_5_0 ?_ | refine call_6_0 ?_ | refine call_7_0 ?_ | refine call_8_0 ?_ | refine call_9_0 ?_ | refine call_10_0 ?_ | refine call_11_0 ?_ | refine call_12_0 ?_ | refine call_13_0 ?_ | refine call_14_0 ?_ | refine call_0_0 ?_ | refine call_11_1 ?_ | refine call_11_2 ?_); (with_reducible conv => whnf))
  rw [sum_nD]
  (with_reducible conv => whnf); repeat ((first | refine ite_t rfl ?_ | refine ite_f rfl ?_ | rw [atI_0] | rw [atI_1] | refine call_1_0 ?_ | refine call_2_0 ?_ | refine call_3_0 ?_ | refine call_4_0 ?_ | refine call_5_0 ?_ | refine call_6_0 ?_ | refine call_7_0 ?_ | refine call_8_0 ?_ | refine call_9_0 ?_ | refine call_10_0 ?_ | refine call_11_0 ?_ | refine call_12_0 ?_ | refine call_13_0 ?_ | refine call_14_0 ?_ | refine call_0_0 ?_ | refine call_11_1 ?_ | refine call_11_2 ?_); (with_reducible conv => whnf))
  rw [sum_cast]
  intro F hF
  have hd : DivOk ((ts.sum : Nat) : Int) := ⟨by omega, by rw [Int.natAbs_natCast]; exact hlog⟩
  refine loopC_map (fun t => nD (A * t / ts.sum)) (len_ok hlen) (fun t ht K k => ?_) ?_
  · (with_reducible conv => whnf); repeat ((first | refine ite_t rfl ?_ | refine ite_f rfl ?_ | rw [atI_0] | rw [atI_1] | refine call_1_0 ?_ | refine call_2_0 ?_ | refine call_3_0 ?_ | refine call_4_0 ?_ | refine call_5_0 ?_ | refine call_6_0 ?_ | refine call_7_0 ?_ | refine call_8_0 ?_ | refine call_9_0 ?_ | refine call_10_0 ?_ | refine call_11_0 ?_ | refine call_12_0 ?_ | refine call_13_0 ?_ | refine call_14_0 ?_ | refine call_0_0 ?_ | refine call_11_1 ?_ | refine call_11_2 ?_); (with_reducible conv => whnf))
    refine ⟨.inl (.inl ⟨by omega, by omega⟩), ?_⟩
    (with_reducible conv => whnf); repeat ((first | refine ite_t rfl ?_ | refine ite_f rfl ?_ | rw [atI_0] | rw [atI_1] | refine call_1_0 ?_ | refine call_2_0 ?_ | refine call_3_0 ?_ | refine call_4_0 ?_ | refine call_5_0 ?_ | refine call_6_0 ?_ | refine call_7_0 ?_ | refine call_8_0 ?_ | refine call_9_0 ?_ | refine call_10_0 ?_ | refine call_11_0 ?_ | refine call_12_0 ?_ | refine call_13_0 ?_ | refine call_14_0 ?_ | refine call_0_0 ?_ | refine call_11_1 ?_ | refine call_11_2 ?_); (with_reducible conv => whnf))
    exact ⟨hd, k⟩
  (with_reducible conv => whnf); repeat ((first | refine ite_t rfl ?_ | refine ite_f rfl ?_ | rw [atI_0] | rw [atI_1] | refine call_1_0 ?_ | refine call_2_0 ?_ | refine call_3_0 ?_ | refine call_4_0 ?_ | refine call_5_0 ?_ | refine call_6_0 ?_ | refine call_7_0 ?_ | refine call_8_0 ?_ | refine call_9_0 ?_ | refine call_10_0 ?_ | refine call_11_0 ?_ | refine call_12_0 ?_ | refine call_13_0 ?_ | refine call_14_0 ?_ | refine call_0_0 ?_ | refine call_11_1 ?_ | refine call_11_2 ?_); (with_reducible conv => whnf))
  rw [hupd_hupd, seqA_ref hupd_same, map_nD]
  (with_reducible conv => whnf); repeat ((first | refine ite_t rfl ?_ | refine ite_f rfl ?_ | rw [atI_0] | rw [atI_1] | refine call_1_0 ?_ | refine call_2_0 ?_ | refine call_3_0 ?_ | refine call_4_0 ?_ | refine call_5_0 ?_ | refine call_6_0 ?_ | refine call_7_0 ?_ | refine call_8_0 ?_ | refine call_9_0 ?_ | refine call_10_0 ?_ | refine call_11_0 ?_ | refine call_12_0 ?_ | refine call_13_0 ?_ | refine call_14_0 ?_ | refine call_0_0 ?_ | refine call_11_1 ?_ | refine call_11_2 ?_); (with_reducible conv => whnf))
  rw [sum_nD]
  (with_reducible conv => whnf); repeat ((first | refine ite_t rfl ?_ | refine ite_f rfl ?_ | rw [atI_0] | rw [atI_1] | refine call_1_0 ?_ | refine call_2_0 ?_ | refine call_3_0 ?_ | refine call_4_0 ?_ | refine call_5_0 ?_ | refine call_6_0 ?_ | refine call_7_0 ?_ | refine call_8_0 ?_ | refine call_9_0 ?_ | refine call_10_0 ?_ | refine call_11_0 ?_ | refine call_12_0 ?_ | refine call_13_0 ?_ | refine call_14_0 ?_ | refine call_0_0 ?_ | refine call_11_1 ?_ | refine call_11_2 ?_); (with_reducible conv => whnf))
  rw [sum_cast, basis_eq, enum_nD]
  have hb := basis_le' (A := A) hT
  unfold partsBy at hQ
  rw [show ((A : Int) - ((basis (ts.map (qr A ts.sum)) : Nat) : Int)) = ((A - basis (ts.map (qr A ts.sum)) : Nat) : Int) from by omega]
  generalize A - basis (ts.map (qr A ts.sum)) = l0 at *
  generalize hTT : ts.sum = T at *
  refine loopF_rule (fun pre ρ h' => ∃ o4 o6, ρ = [some (.int A), some (.lst (ts.map nD)), some (.int T), some (.ref F), o4, some (.int (left l0 (pre.map fun p => qr A T p.1) : Nat)), o6] ∧
    h' = hupd h F (.lst ((give l0 (pre.map fun p => qr A T p.1) ++ (ts.drop pre.length).map fun t => A * t / T).map nD))) ?_ ?_ ⟨none, none, rfl, rfl⟩
  · rintro ρ h' ⟨o4, o6, rfl, rfl⟩
    (with_reducible conv => whnf); repeat ((first | refine ite_t rfl ?_ | refine ite_f rfl ?_ | rw [atI_0] | rw [atI_1] | refine call_1_0 ?_ | refine call_2_0 ?_ | refine call_3_0 ?_ | refine call_4_0 ?_ | refine call_5_0 ?_ | refine call_6_0 ?_ | refine call_7_0 ?_ | refine call_8_0 ?_ | refine call_9_0 ?_ | refine call_10_0 ?_ | refine call_11_0 ?_ | refine call_12_0 ?_ | refine call_13_0 ?_ | refine call_14_0 ?_ | refine call_0_0 ?_ | refine call_11_1 ?_ | refine call_11_2 ?_); (with_reducible conv => whnf))
    rw [hupd_same]
    (with_reducible conv => whnf); repeat ((first | refine ite_t rfl ?_ | refine ite_f rfl ?_ | rw [atI_0] | rw [atI_1] | refine call_1_0 ?_ | refine call_2_0 ?_ | refine call_3_0 ?_ | refine call_4_0 ?_ | refine call_5_0 ?_ | refine call_6_0 ?_ | refine call_7_0 ?_ | refine call_8_0 ?_ | refine call_9_0 ?_ | refine call_10_0 ?_ | refine call_11_0 ?_ | refine call_12_0 ?_ | refine call_13_0 ?_ | refine call_14_0 ?_ | refine call_0_0 ?_ | refine call_11_1 ?_ | refine call_11_2 ?_); (with_reducible conv => whnf))
    rw [hdel_hupd hF]
    have e1 : (ts.zipIdx.map fun p => qr A T p.1) = ts.map (qr A T) := by
      have : (ts.zipIdx.map fun p => qr A T p.1) = (ts.zipIdx.map (·.1)).map (qr A T) := by rw [List.map_map]; rfl
      rw [this]; simp
    rw [e1]
    simp only [List.length_zipIdx, List.drop_length, List.map_nil, List.append_nil]
    exact hQ
  · rintro pre ⟨t, i⟩ suf ρ h' K e ⟨o4, o6, rfl, rfl⟩ hK
    obtain ⟨rfl, e2⟩ := zip_split e
    have hm : ∀ (x : Int), MulOk (A : Int) x := fun x => .inl (.inl ⟨by omega, by omega⟩)
    (with_reducible conv => whnf); repeat ((first | refine ite_t rfl ?_ | refine ite_f rfl ?_ | rw [atI_0] | rw [atI_1] | refine call_1_0 ?_ | refine call_2_0 ?_ | refine call_3_0 ?_ | refine call_4_0 ?_ | refine call_5_0 ?_ | refine call_6_0 ?_ | refine call_7_0 ?_ | refine call_8_0 ?_ | refine call_9_0 ?_ | refine call_10_0 ?_ | refine call_11_0 ?_ | refine call_12_0 ?_ | refine call_13_0 ?_ | refine call_14_0 ?_ | refine call_0_0 ?_ | refine call_11_1 ?_ | refine call_11_2 ?_); (with_reducible conv => whnf))
    refine ⟨rfl, ?_⟩
    (with_reducible conv => whnf); repeat ((first | refine ite_t rfl ?_ | refine ite_f rfl ?_ | rw [atI_0] | rw [atI_1] | refine call_1_0 ?_ | refine call_2_0 ?_ | refine call_3_0 ?_ | refine call_4_0 ?_ | refine call_5_0 ?_ | refine call_6_0 ?_ | refine call_7_0 ?_ | refine call_8_0 ?_ | refine call_9_0 ?_ | refine call_10_0 ?_ | refine call_11_0 ?_ | refine call_12_0 ?_ | refine call_13_0 ?_ | refine call_14_0 ?_ | refine call_0_0 ?_ | refine call_11_1 ?_ | refine call_11_2 ?_); (with_reducible conv => whnf))
    have d1 : ts.drop pre.length = t :: suf.map (·.1) := by rw [e2]; simp
    have d2 : ts.drop (pre ++ [(t, pre.length)]).length = suf.map (·.1) := by
      rw [List.length_append, List.length_singleton, ← List.drop_drop, d1]; rfl
    have g1 : (pre ++ [(t, pre.length)]).map (fun p => qr A T p.1) = (pre.map fun p => qr A T p.1) ++ [qr A T t] := by simp
    have key := hK _ _ ⟨some (nD t), some (.int pre.length), rfl, rfl⟩
    rw [g1, d2, give_app, left_app] at key
    rw [d1]
    simp only [List.map_append, List.map_cons] at key ⊢
    have hL : pre.length = ((give l0 (pre.map fun p => qr A T p.1)).map nD).length := by rw [List.length_map, give_len, List.length_map]
    generalize (pre.map fun p => qr A T p.1) = L0 at *
    obtain ⟨i1, i2⟩ := atI_mid (y := nD (A * t / T)) (zs := ((suf.map (·.1)).map fun t => A * t / T).map nD) hL
    have cm : ((A : Int) * t % T) = ((A * t % T : Nat) : Int) := by push_cast; rfl
    by_cases c1 : 0 < left l0 L0
    · refine ite_t (decide_eq_true (by omega)) ?_
      (with_reducible conv => whnf); repeat ((first | refine ite_t rfl ?_ | refine ite_f rfl ?_ | rw [atI_0] | rw [atI_1] | refine call_1_0 ?_ | refine call_2_0 ?_ | refine call_3_0 ?_ | refine call_4_0 ?_ | refine call_5_0 ?_ | refine call_6_0 ?_ | refine call_7_0 ?_ | refine call_8_0 ?_ | refine call_9_0 ?_ | refine call_10_0 ?_ | refine call_11_0 ?_ | refine call_12_0 ?_ | refine call_13_0 ?_ | refine call_14_0 ?_ | refine call_0_0 ?_ | refine call_11_1 ?_ | refine call_11_2 ?_); (with_reducible conv => whnf))
      refine ⟨hm _, ?_⟩
      (with_reducible conv => whnf); repeat ((first | refine ite_t rfl ?_ | refine ite_f rfl ?_ | rw [atI_0] | rw [atI_1] | refine call_1_0 ?_ | refine call_2_0 ?_ | refine call_3_0 ?_ | refine call_4_0 ?_ | refine call_5_0 ?_ | refine call_6_0 ?_ | refine call_7_0 ?_ | refine call_8_0 ?_ | refine call_9_0 ?_ | refine call_10_0 ?_ | refine call_11_0 ?_ | refine call_12_0 ?_ | refine call_13_0 ?_ | refine call_14_0 ?_ | refine call_0_0 ?_ | refine call_11_1 ?_ | refine call_11_2 ?_); (with_reducible conv => whnf))
      refine ⟨by omega, ?_⟩
      by_cases c2 : 0 < A * t % T
      · have c : 0 < left l0 L0 ∧ decide (0 < A * t % T) = true := ⟨c1, decide_eq_true c2⟩
        simp only [qr, give, left] at key
        simp only [c1, c2, decide_true, decide_false, and_true, and_false, false_and, Bool.false_eq_true, if_true, if_false, and_self, reduceIte] at key
        (with_reducible conv => whnf); repeat ((first | refine ite_t rfl ?_ | refine ite_f rfl ?_ | rw [atI_0] | rw [atI_1] | refine call_1_0 ?_ | refine call_2_0 ?_ | refine call_3_0 ?_ | refine call_4_0 ?_ | refine call_5_0 ?_ | refine call_6_0 ?_ | refine call_7_0 ?_ | refine call_8_0 ?_ | refine call_9_0 ?_ | refine call_10_0 ?_ | refine call_11_0 ?_ | refine call_12_0 ?_ | refine call_13_0 ?_ | refine call_14_0 ?_ | refine call_0_0 ?_ | refine call_11_1 ?_ | refine call_11_2 ?_); (with_reducible conv => whnf))
        refine ite_t (decide_eq_true (by omega)) ?_
        (with_reducible conv => whnf); repeat ((first | refine ite_t rfl ?_ | refine ite_f rfl ?_ | rw [atI_0] | rw [atI_1] | refine call_1_0 ?_ | refine call_2_0 ?_ | refine call_3_0 ?_ | refine call_4_0 ?_ | refine call_5_0 ?_ | refine call_6_0 ?_ | refine call_7_0 ?_ | refine call_8_0 ?_ | refine call_9_0 ?_ | refine call_10_0 ?_ | refine call_11_0 ?_ | refine call_12_0 ?_ | refine call_13_0 ?_ | refine call_14_0 ?_ | refine call_0_0 ?_ | refine call_11_1 ?_ | refine call_11_2 ?_); (with_reducible conv => whnf))
        rw [hupd_same]
        (with_reducible conv => whnf); repeat ((first | refine ite_t rfl ?_ | refine ite_f rfl ?_ | rw [atI_0] | rw [atI_1] | refine call_1_0 ?_ | refine call_2_0 ?_ | refine call_3_0 ?_ | refine call_4_0 ?_ | refine call_5_0 ?_ | refine call_6_0 ?_ | refine call_7_0 ?_ | refine call_8_0 ?_ | refine call_9_0 ?_ | refine call_10_0 ?_ | refine call_11_0 ?_ | refine call_12_0 ?_ | refine call_13_0 ?_ | refine call_14_0 ?_ | refine call_0_0 ?_ | refine call_11_1 ?_ | refine call_11_2 ?_); (with_reducible conv => whnf))
        rw [i1]
        (with_reducible conv => whnf); repeat ((first | refine ite_t rfl ?_ | refine ite_f rfl ?_ | rw [atI_0] | rw [atI_1] | refine call_1_0 ?_ | refine call_2_0 ?_ | refine call_3_0 ?_ | refine call_4_0 ?_ | refine call_5_0 ?_ | refine call_6_0 ?_ | refine call_7_0 ?_ | refine call_8_0 ?_ | refine call_9_0 ?_ | refine call_10_0 ?_ | refine call_11_0 ?_ | refine call_12_0 ?_ | refine call_13_0 ?_ | refine call_14_0 ?_ | refine call_0_0 ?_ | refine call_11_1 ?_ | refine call_11_2 ?_); (with_reducible conv => whnf))
        rw [hupd_same]
        (with_reducible conv => whnf); repeat ((first | refine ite_t rfl ?_ | refine ite_f rfl ?_ | rw [atI_0] | rw [atI_1] | refine call_1_0 ?_ | refine call_2_0 ?_ | refine call_3_0 ?_ | refine call_4_0 ?_ | refine call_5_0 ?_ | refine call_6_0 ?_ | refine call_7_0 ?_ | refine call_8_0 ?_ | refine call_9_0 ?_ | refine call_10_0 ?_ | refine call_11_0 ?_ | refine call_12_0 ?_ | refine call_13_0 ?_ | refine call_14_0 ?_ | refine call_0_0 ?_ | refine call_11_1 ?_ | refine call_11_2 ?_); (with_reducible conv => whnf))
        rw [i2]
        (with_reducible conv => whnf); repeat ((first | refine ite_t rfl ?_ | refine ite_f rfl ?_ | rw [atI_0] | rw [atI_1] | refine call_1_0 ?_ | refine call_2_0 ?_ | refine call_3_0 ?_ | refine call_4_0 ?_ | refine call_5_0 ?_ | refine call_6_0 ?_ | refine call_7_0 ?_ | refine call_8_0 ?_ | refine call_9_0 ?_ | refine call_10_0 ?_ | refine call_11_0 ?_ | refine call_12_0 ?_ | refine call_13_0 ?_ | refine call_14_0 ?_ | refine call_0_0 ?_ | refine call_11_1 ?_ | refine call_11_2 ?_); (with_reducible conv => whnf))
        rw [hupd_hupd, set_mid hL]
        rw [show ((left l0 L0 : Nat) : Int) - 1 = ((left l0 L0 - 1 : Nat) : Int) from by omega, show (((A * t / T : Nat) : Int) + 1) = ((A * t / T + 1 : Nat) : Int) from rfl]
        simp only [List.map_cons, List.map_nil, List.append_assoc, List.cons_append, List.nil_append] at key
        exact key
      · simp only [qr, give, left] at key
        simp only [c1, c2, decide_true, decide_false, and_true, and_false, false_and, Bool.false_eq_true, if_true, if_false, and_self, reduceIte] at key
        (with_reducible conv => whnf); repeat ((first | refine ite_t rfl ?_ | refine ite_f rfl ?_ | rw [atI_0] | rw [atI_1] | refine call_1_0 ?_ | refine call_2_0 ?_ | refine call_3_0 ?_ | refine call_4_0 ?_ | refine call_5_0 ?_ | refine call_6_0 ?_ | refine call_7_0 ?_ | refine call_8_0 ?_ | refine call_9_0 ?_ | refine call_10_0 ?_ | refine call_11_0 ?_ | refine call_12_0 ?_ | refine call_13_0 ?_ | refine call_14_0 ?_ | refine call_0_0 ?_ | refine call_11_1 ?_ | refine call_11_2 ?_); (with_reducible conv => whnf))
        refine ite_f (decide_eq_false (by omega)) ?_
        (with_reducible conv => whnf); repeat ((first | refine ite_t rfl ?_ | refine ite_f rfl ?_ | rw [atI_0] | rw [atI_1] | refine call_1_0 ?_ | refine call_2_0 ?_ | refine call_3_0 ?_ | refine call_4_0 ?_ | refine call_5_0 ?_ | refine call_6_0 ?_ | refine call_7_0 ?_ | refine call_8_0 ?_ | refine call_9_0 ?_ | refine call_10_0 ?_ | refine call_11_0 ?_ | refine call_12_0 ?_ | refine call_13_0 ?_ | refine call_14_0 ?_ | refine call_0_0 ?_ | refine call_11_1 ?_ | refine call_11_2 ?_); (with_reducible conv => whnf))
        simp only [List.map_cons, List.map_nil, List.append_assoc, List.cons_append, List.nil_append] at key
        exact key
    · simp only [qr, give, left] at key
      simp only [c1, decide_true, decide_false, and_true, and_false, false_and, Bool.false_eq_true, if_true, if_false, and_self, reduceIte] at key
      refine ite_f (decide_eq_false (by omega)) ?_
      (with_reducible conv => whnf); repeat ((first | refine ite_t rfl ?_ | refine ite_f rfl ?_ | rw [atI_0] | rw [atI_1] | refine call_1_0 ?_ | refine call_2_0 ?_ | refine call_3_0 ?_ | refine call_4_0 ?_ | refine call_5_0 ?_ | refine call_6_0 ?_ | refine call_7_0 ?_ | refine call_8_0 ?_ | refine call_9_0 ?_ | refine call_10_0 ?_ | refine call_11_0 ?_ | refine call_12_0 ?_ | refine call_13_0 ?_ | refine call_14_0 ?_ | refine call_0_0 ?_ | refine call_11_1 ?_ | refine call_11_2 ?_); (with_reducible conv => whnf))
      simp only [List.map_cons, List.map_nil, List.append_assoc, List.cons_append, List.nil_append] at key
      exact key
theorem log_lt {n : Nat} (h1 : 0 < n) (h2 : n < 2 ^ 64) : DivOk (n : Int) := by
  refine ⟨by omega, ?_⟩
  rw [Int.natAbs_natCast]
  have : Nat.log2 n < 64 := (Nat.log2_lt (by omega)).mpr h2
  omega
theorem w_split_by : Meets G N_split_by 2 b_split_by S_split_by := by
  rintro ds h Q Xd - ⟨A, ps, rfl, hA, ⟨⟨v1, v2⟩, v3, v4⟩, hQ⟩
  (with_reducible conv => whnf); repeat ((first | refine ite_t rfl ?_ | refine ite_f rfl ?_ | rw [atI_0] | rw [atI_1] | refine call_1_0 ?_ | refine call_2_0 ?_ | refine call_3_0 ?_ | refine call_4_0 ?_ | refine call_5_0 ?_ | refine call_6_0 ?_ | refine call_7_0 ?_ | refine call_8_0 ?_ | refine call_9_0 ?_ | refine call_10_0 ?_ | refine call_11_0 ?_ | refine call_12_0 ?_ | refine call_13_0 ?_ | refine call_14_0 ?_ | refine call_0_0 ?_ | refine call_11_1 ?_ | refine call_11_2 ?_); (with_reducible conv => whnf))
  refine loopF_rule (fun pre ρ h' => ∃ o3 o4, ρ = [some (.int A), some (.tup (ps.map shD)), some (.int ((pre.foldl (fun b p => b * p.2 / Nat.gcd p.2 b) 1 : Nat))), o3, o4] ∧ h' = h) ?_ ?_ ⟨none, none, rfl, rfl⟩
  · rintro ρ h' ⟨o3, o4, rfl, rfl⟩
    (with_reducible conv => whnf); repeat ((first | refine ite_t rfl ?_ | refine ite_f rfl ?_ | rw [atI_0] | rw [atI_1] | refine call_1_0 ?_ | refine call_2_0 ?_ | refine call_3_0 ?_ | refine call_4_0 ?_ | refine call_5_0 ?_ | refine call_6_0 ?_ | refine call_7_0 ?_ | refine call_8_0 ?_ | refine call_9_0 ?_ | refine call_10_0 ?_ | refine call_11_0 ?_ | refine call_12_0 ?_ | refine call_13_0 ?_ | refine call_14_0 ?_ | refine call_0_0 ?_ | refine call_11_1 ?_ | refine call_11_2 ?_); (with_reducible conv => whnf))
    intro F hF
    refine loopC_map (fun p => nD (p.1 * (bot ps / p.2))) (len_ok v2) (fun p hp K k => ?_) ?_
    · obtain ⟨e1, e2, e3, e4⟩ := v3 p hp
      (with_reducible conv => whnf); repeat ((first | refine ite_t rfl ?_ | refine ite_f rfl ?_ | rw [atI_0] | rw [atI_1] | refine call_1_0 ?_ | refine call_2_0 ?_ | refine call_3_0 ?_ | refine call_4_0 ?_ | refine call_5_0 ?_ | refine call_6_0 ?_ | refine call_7_0 ?_ | refine call_8_0 ?_ | refine call_9_0 ?_ | refine call_10_0 ?_ | refine call_11_0 ?_ | refine call_12_0 ?_ | refine call_13_0 ?_ | refine call_14_0 ?_ | refine call_0_0 ?_ | refine call_11_1 ?_ | refine call_11_2 ?_); (with_reducible conv => whnf))
      refine ⟨rfl, ?_⟩
      (with_reducible conv => whnf); repeat ((first | refine ite_t rfl ?_ | refine ite_f rfl ?_ | rw [atI_0] | rw [atI_1] | refine call_1_0 ?_ | refine call_2_0 ?_ | refine call_3_0 ?_ | refine call_4_0 ?_ | refine call_5_0 ?_ | refine call_6_0 ?_ | refine call_7_0 ?_ | refine call_8_0 ?_ | refine call_9_0 ?_ | refine call_10_0 ?_ | refine call_11_0 ?_ | refine call_12_0 ?_ | refine call_13_0 ?_ | refine call_14_0 ?_ | refine call_0_0 ?_ | refine call_11_1 ?_ | refine call_11_2 ?_); (with_reducible conv => whnf))
      refine ⟨log_lt e1 (by omega), ?_⟩
      (with_reducible conv => whnf); repeat ((first | refine ite_t rfl ?_ | refine ite_f rfl ?_ | rw [atI_0] | rw [atI_1] | refine call_1_0 ?_ | refine call_2_0 ?_ | refine call_3_0 ?_ | refine call_4_0 ?_ | refine call_5_0 ?_ | refine call_6_0 ?_ | refine call_7_0 ?_ | refine call_8_0 ?_ | refine call_9_0 ?_ | refine call_10_0 ?_ | refine call_11_0 ?_ | refine call_12_0 ?_ | refine call_13_0 ?_ | refine call_14_0 ?_ | refine call_0_0 ?_ | refine call_11_1 ?_ | refine call_11_2 ?_); (with_reducible conv => whnf))
      exact ⟨.inl (.inl ⟨by omega, by omega⟩), k⟩
    (with_reducible conv => whnf); repeat ((first | refine ite_t rfl ?_ | refine ite_f rfl ?_ | rw [atI_0] | rw [atI_1] | refine call_1_0 ?_ | refine call_2_0 ?_ | refine call_3_0 ?_ | refine call_4_0 ?_ | refine call_5_0 ?_ | refine call_6_0 ?_ | refine call_7_0 ?_ | refine call_8_0 ?_ | refine call_9_0 ?_ | refine call_10_0 ?_ | refine call_11_0 ?_ | refine call_12_0 ?_ | refine call_13_0 ?_ | refine call_14_0 ?_ | refine call_0_0 ?_ | refine call_11_1 ?_ | refine call_11_2 ?_); (with_reducible conv => whnf))
    rw [map_nD, hdel_hupd hF]
    have hp : ∀ p ∈ ps, 0 < p.2 := fun p hp => (v3 p hp).1
    have T := tops_sum hp v4
    exact ⟨A, tops ps, rfl, hA, T, tops_log v2 (fun p hp => (v3 p hp).2.2) T, by unfold tops; simpa using v2, hQ⟩
  · rintro pre ⟨t, u⟩ suf ρ h' K e ⟨o3, o4, rfl, rfl⟩ hK
    obtain ⟨e1, e2, e3, e4⟩ := v3 (t, u) (by rw [e]; simp)
    have e1 : 0 < u := e1
    have e4 : u < 2 ^ 40 := e4
    have key := hK _ _ ⟨some (.int t), some (.int u), rfl, rfl⟩
    rw [List.foldl_append] at key
    generalize (pre.foldl (fun b p => b * p.2 / Nat.gcd p.2 b) 1) = B at *
    (with_reducible conv => whnf); repeat ((first | refine ite_t rfl ?_ | refine ite_f rfl ?_ | rw [atI_0] | rw [atI_1] | refine call_1_0 ?_ | refine call_2_0 ?_ | refine call_3_0 ?_ | refine call_4_0 ?_ | refine call_5_0 ?_ | refine call_6_0 ?_ | refine call_7_0 ?_ | refine call_8_0 ?_ | refine call_9_0 ?_ | refine call_10_0 ?_ | refine call_11_0 ?_ | refine call_12_0 ?_ | refine call_13_0 ?_ | refine call_14_0 ?_ | refine call_0_0 ?_ | refine call_11_1 ?_ | refine call_11_2 ?_); (with_reducible conv => whnf))
    refine ⟨rfl, ?_⟩
    (with_reducible conv => whnf); repeat ((first | refine ite_t rfl ?_ | refine ite_f rfl ?_ | rw [atI_0] | rw [atI_1] | refine call_1_0 ?_ | refine call_2_0 ?_ | refine call_3_0 ?_ | refine call_4_0 ?_ | refine call_5_0 ?_ | refine call_6_0 ?_ | refine call_7_0 ?_ | refine call_8_0 ?_ | refine call_9_0 ?_ | refine call_10_0 ?_ | refine call_11_0 ?_ | refine call_12_0 ?_ | refine call_13_0 ?_ | refine call_14_0 ?_ | refine call_0_0 ?_ | refine call_11_1 ?_ | refine call_11_2 ?_); (with_reducible conv => whnf))
    refine ⟨.inl (.inr ⟨by omega, by omega⟩), ?_⟩
    (with_reducible conv => whnf); repeat ((first | refine ite_t rfl ?_ | refine ite_f rfl ?_ | rw [atI_0] | rw [atI_1] | refine call_1_0 ?_ | refine call_2_0 ?_ | refine call_3_0 ?_ | refine call_4_0 ?_ | refine call_5_0 ?_ | refine call_6_0 ?_ | refine call_7_0 ?_ | refine call_8_0 ?_ | refine call_9_0 ?_ | refine call_10_0 ?_ | refine call_11_0 ?_ | refine call_12_0 ?_ | refine call_13_0 ?_ | refine call_14_0 ?_ | refine call_0_0 ?_ | refine call_11_1 ?_ | refine call_11_2 ?_); (with_reducible conv => whnf))
    refine ⟨B, u, rfl, ?_⟩
    (with_reducible conv => whnf); repeat ((first | refine ite_t rfl ?_ | refine ite_f rfl ?_ | rw [atI_0] | rw [atI_1] | refine call_1_0 ?_ | refine call_2_0 ?_ | refine call_3_0 ?_ | refine call_4_0 ?_ | refine call_5_0 ?_ | refine call_6_0 ?_ | refine call_7_0 ?_ | refine call_8_0 ?_ | refine call_9_0 ?_ | refine call_10_0 ?_ | refine call_11_0 ?_ | refine call_12_0 ?_ | refine call_13_0 ?_ | refine call_14_0 ?_ | refine call_0_0 ?_ | refine call_11_1 ?_ | refine call_11_2 ?_); (with_reducible conv => whnf))
    have g1 : 0 < Nat.gcd u B := Nat.gcd_pos_of_pos_left _ e1
    have g2 : Nat.gcd u B ≤ u := Nat.le_of_dvd e1 (Nat.gcd_dvd_left _ _)
    exact ⟨log_lt g1 (by omega), key⟩
theorem w_parted : Meets G N_parted 2 b_parted S_parted := by
  rintro ds h Q Xd - ⟨A, ps, rfl, hA, hv, hQ⟩
  (with_reducible conv => whnf); repeat ((first | refine ite_t rfl ?_ | refine ite_f rfl ?_ | rw [atI_0] | rw [atI_1] | refine call_1_0 ?_ | refine call_2_0 ?_ | refine call_3_0 ?_ | refine call_4_0 ?_ | refine call_5_0 ?_ | refine call_6_0 ?_ | refine call_7_0 ?_ | refine call_8_0 ?_ | refine call_9_0 ?_ | refine call_10_0 ?_ | refine call_11_0 ?_ | refine call_12_0 ?_ | refine call_13_0 ?_ | refine call_14_0 ?_ | refine call_0_0 ?_ | refine call_11_1 ?_ | refine call_11_2 ?_); (with_reducible conv => whnf))
  refine ⟨A, 0, 1000000000000, rfl, by omega, by omega, ?_⟩
  (with_reducible conv => whnf); repeat ((first | refine ite_t rfl ?_ | refine ite_f rfl ?_ | rw [atI_0] | rw [atI_1] | refine call_1_0 ?_ | refine call_2_0 ?_ | refine call_3_0 ?_ | refine call_4_0 ?_ | refine call_5_0 ?_ | refine call_6_0 ?_ | refine call_7_0 ?_ | refine call_8_0 ?_ | refine call_9_0 ?_ | refine call_10_0 ?_ | refine call_11_0 ?_ | refine call_12_0 ?_ | refine call_13_0 ?_ | refine call_14_0 ?_ | refine call_0_0 ?_ | refine call_11_1 ?_ | refine call_11_2 ?_); (with_reducible conv => whnf))
  refine ⟨ps, rfl, hv, ?_⟩
  (with_reducible conv => whnf); repeat ((first | refine ite_t rfl ?_ | refine ite_f rfl ?_ | rw [atI_0] | rw [atI_1] | refine call_1_0 ?_ | refine call_2_0 ?_ | refine call_3_0 ?_ | refine call_4_0 ?_ | refine call_5_0 ?_ | refine call_6_0 ?_ | refine call_7_0 ?_ | refine call_8_0 ?_ | refine call_9_0 ?_ | refine call_10_0 ?_ | refine call_11_0 ?_ | refine call_12_0 ?_ | refine call_13_0 ?_ | refine call_14_0 ?_ | refine call_0_0 ?_ | refine call_11_1 ?_ | refine call_11_2 ?_); (with_reducible conv => whnf))
  exact ⟨A, ps, rfl, by omega, hv, hQ⟩
end K03
namespace K03
open Y
open PySem (sizeLine)
open L2 (atI ixN)
theorem cutD_map {α β : Type} (f : α → β) (l : List α) (lo hi : Option Int) : cutD (l.map f) lo hi = (cutD l lo hi).map f := by
  unfold cutD
  rw [List.length_map, ← List.map_drop, ← List.map_take]
theorem hupd_comm {h : Hd} {a b : PySem.Addr} {x y : D} (e : a ≠ b) : hupd (hupd h a x) b y = hupd (hupd h b y) a x := by
  funext c
  unfold hupd
  by_cases h1 : c = a
  · subst h1; rw [if_neg e, if_pos rfl, if_pos rfl]
  · by_cases h2 : c = b
    · subst h2; rw [if_pos rfl, if_neg h1, if_pos rfl]
    · simp only [if_neg h1, if_neg h2]
theorem mulX {i j : Int} (h1 : i.natAbs < 2 ^ 4000) (h2 : j.natAbs < 2 ^ 4000) : MulOk i j := by
  refine .inr ?_
  have b : ∀ x : Int, x.natAbs < 2 ^ 4000 → PySem.Builtin.Int.intBits x ≤ 4001 := fun x hx => by
    unfold PySem.Builtin.Int.intBits
    split
    · omega
    · rename_i hz
      have hz : x ≠ 0 := by simpa using hz
      have := (Nat.log2_lt (n := x.natAbs) (k := 4000) (by omega)).mpr hx
      omega
  have := b i h1
  have := b j h2
  show (PySem.Builtin.Int.intBits i : Int) + (PySem.Builtin.Int.intBits j : Int) ≤ 134217728
  omega
theorem mulR64 {i j : Int} (h1 : -(2 ^ 64) < j) (h2 : j < 2 ^ 64) : MulOk i j := .inl (.inr ⟨h1, h2⟩)
theorem mulL64 {i j : Int} (h1 : -(2 ^ 64) < i) (h2 : i < 2 ^ 64) : MulOk i j := .inl (.inl ⟨h1, h2⟩)
theorem pool_out {F : PySem.Addr → Prop} {h : Hd} {Q : QD} {x : Int} (hQ : ∀ (a : PySem.Addr) (n : Int), h a = none → Q (.ref a) (hupd h a (.lst [.int n]))) : ∀ a, h a = none → Q (.ref a) (hupd h a (.lst [.int x])) := fun a e => hQ a x e
set_option maxHeartbeats 1000000 in
theorem w_pool : Meets G N__law_pool 2 b__law_pool S_pool := by
  rintro ds h Q Xd - ⟨is, k, rfl, hk, hQ⟩
  (with_reducible conv => whnf); repeat ((first | refine ite_t rfl ?_ | refine ite_f rfl ?_ | rw [atI_0] | rw [atI_1] | refine call_1_0 ?_ | refine call_2_0 ?_ | refine call_3_0 ?_ | refine call_4_0 ?_ | refine call_5_0 ?_ | refine call_6_0 ?_ | refine call_7_0 ?_ | refine call_8_0 ?_ | refine call_9_0 ?_ | refine call_10_0 ?_ | refine call_11_0 ?_ | refine call_12_0 ?_ | refine call_13_0 ?_ | refine call_14_0 ?_ | refine call_0_0 ?_ | refine call_11_1 ?_ | refine call_11_2 ?_); (with_reducible conv => whnf))
  rw [cutD_map]
  (with_reducible conv => whnf); repeat ((first | refine ite_t rfl ?_ | refine ite_f rfl ?_ | rw [atI_0] | rw [atI_1] | refine call_1_0 ?_ | refine call_2_0 ?_ | refine call_3_0 ?_ | refine call_4_0 ?_ | refine call_5_0 ?_ | refine call_6_0 ?_ | refine call_7_0 ?_ | refine call_8_0 ?_ | refine call_9_0 ?_ | refine call_10_0 ?_ | refine call_11_0 ?_ | refine call_12_0 ?_ | refine call_13_0 ?_ | refine call_14_0 ?_ | refine call_0_0 ?_ | refine call_11_1 ?_ | refine call_11_2 ?_); (with_reducible conv => whnf))
  rw [intsOf_map]
  (with_reducible conv => whnf); repeat ((first | refine ite_t rfl ?_ | refine ite_f rfl ?_ | rw [atI_0] | rw [atI_1] | refine call_1_0 ?_ | refine call_2_0 ?_ | refine call_3_0 ?_ | refine call_4_0 ?_ | refine call_5_0 ?_ | refine call_6_0 ?_ | refine call_7_0 ?_ | refine call_8_0 ?_ | refine call_9_0 ?_ | refine call_10_0 ?_ | refine call_11_0 ?_ | refine call_12_0 ?_ | refine call_13_0 ?_ | refine call_14_0 ?_ | refine call_0_0 ?_ | refine call_11_1 ?_ | refine call_11_2 ?_); (with_reducible conv => whnf))
  generalize (cutD is (some ↑k) (some (↑k + 1))).sum = cell
  have early : wpSs G (Ss.cons (S.ret (E.lst true (Es.cons (E.op Op2.mod (E.bif Bif.abs (Es.cons (E.loc 2) Es.nil)) (E.op Op2.mul (E.op Op2.mul (E.op Op2.mul (E.op Op2.mul (E.op Op2.mul (E.op Op2.pow (E.int 10) (E.int 64)) (E.op Op2.pow (E.int 10) (E.int 64))) (E.op Op2.pow (E.int 10) (E.int 64))) (E.op Op2.pow (E.int 10) (E.int 64))) (E.op Op2.pow (E.int 10) (E.int 64))) (E.op Op2.pow (E.int 10) (E.int 64)))) Es.nil))) Ss.nil)
      (stE (startE N__law_pool [D.scr is, D.int k]) 2 (D.int cell)) h { nx := fun _ _ => False, rt := Q } Xd := by
    have p : L2.CPow 10 64 := ⟨by decide, by decide, by decide⟩
    (with_reducible conv => whnf); repeat ((first | refine ite_t rfl ?_ | refine ite_f rfl ?_ | rw [atI_0] | rw [atI_1] | refine call_1_0 ?_ | refine call_2_0 ?_ | refine call_3_0 ?_ | refine call_4_0 ?_ | refine call_5_0 ?_ | refine call_6_0 ?_ | refine call_7_0 ?_ | refine call_8_0 ?_ | refine call_9_0 ?_ | refine call_10_0 ?_ | refine call_11_0 ?_ | refine call_12_0 ?_ | refine call_13_0 ?_ | refine call_14_0 ?_ | refine call_0_0 ?_ | refine call_11_1 ?_ | refine call_11_2 ?_); (with_reducible conv => whnf))
    refine ⟨p, p, mulX (by decide +kernel) (by decide +kernel), p, mulX (by decide +kernel) (by decide +kernel), p, mulX (by decide +kernel) (by decide +kernel), p, mulX (by decide +kernel) (by decide +kernel), p, mulX (by decide +kernel) (by decide +kernel), ?_⟩
    refine ⟨by decide +kernel, (by decide : 1 ≤ sizeLine), ?_⟩
    exact fun a e => hQ a _ e
  by_cases c1 : cell < 0
  · refine ite_t (decide_eq_true c1) ?_
    (with_reducible conv => whnf); repeat ((first | refine ite_t rfl ?_ | refine ite_f rfl ?_ | rw [atI_0] | rw [atI_1] | refine call_1_0 ?_ | refine call_2_0 ?_ | refine call_3_0 ?_ | refine call_4_0 ?_ | refine call_5_0 ?_ | refine call_6_0 ?_ | refine call_7_0 ?_ | refine call_8_0 ?_ | refine call_9_0 ?_ | refine call_10_0 ?_ | refine call_11_0 ?_ | refine call_12_0 ?_ | refine call_13_0 ?_ | refine call_14_0 ?_ | refine call_0_0 ?_ | refine call_11_1 ?_ | refine call_11_2 ?_); (with_reducible conv => whnf))
    exact early
  refine ite_f (decide_eq_false c1) ?_
  (with_reducible conv => whnf); repeat ((first | refine ite_t rfl ?_ | refine ite_f rfl ?_ | rw [atI_0] | rw [atI_1] | refine call_1_0 ?_ | refine call_2_0 ?_ | refine call_3_0 ?_ | refine call_4_0 ?_ | refine call_5_0 ?_ | refine call_6_0 ?_ | refine call_7_0 ?_ | refine call_8_0 ?_ | refine call_9_0 ?_ | refine call_10_0 ?_ | refine call_11_0 ?_ | refine call_12_0 ?_ | refine call_13_0 ?_ | refine call_14_0 ?_ | refine call_0_0 ?_ | refine call_11_1 ?_ | refine call_11_2 ?_); (with_reducible conv => whnf))
  refine ⟨⟨by decide, by decide, by decide⟩, ?_⟩
  by_cases c2 : 10 ^ 18 ≤ cell
  · (with_reducible conv => whnf); repeat ((first | refine ite_t rfl ?_ | refine ite_f rfl ?_ | rw [atI_0] | rw [atI_1] | refine call_1_0 ?_ | refine call_2_0 ?_ | refine call_3_0 ?_ | refine call_4_0 ?_ | refine call_5_0 ?_ | refine call_6_0 ?_ | refine call_7_0 ?_ | refine call_8_0 ?_ | refine call_9_0 ?_ | refine call_10_0 ?_ | refine call_11_0 ?_ | refine call_12_0 ?_ | refine call_13_0 ?_ | refine call_14_0 ?_ | refine call_0_0 ?_ | refine call_11_1 ?_ | refine call_11_2 ?_); (with_reducible conv => whnf))
    refine ite_t (decide_eq_true c2) ?_
    exact early
  · (with_reducible conv => whnf); repeat ((first | refine ite_t rfl ?_ | refine ite_f rfl ?_ | rw [atI_0] | rw [atI_1] | refine call_1_0 ?_ | refine call_2_0 ?_ | refine call_3_0 ?_ | refine call_4_0 ?_ | refine call_5_0 ?_ | refine call_6_0 ?_ | refine call_7_0 ?_ | refine call_8_0 ?_ | refine call_9_0 ?_ | refine call_10_0 ?_ | refine call_11_0 ?_ | refine call_12_0 ?_ | refine call_13_0 ?_ | refine call_14_0 ?_ | refine call_0_0 ?_ | refine call_11_1 ?_ | refine call_11_2 ?_); (with_reducible conv => whnf))
    refine ite_f (decide_eq_false c2) ?_
    (with_reducible conv => whnf); repeat ((first | refine ite_t rfl ?_ | refine ite_f rfl ?_ | rw [atI_0] | rw [atI_1] | refine call_1_0 ?_ | refine call_2_0 ?_ | refine call_3_0 ?_ | refine call_4_0 ?_ | refine call_5_0 ?_ | refine call_6_0 ?_ | refine call_7_0 ?_ | refine call_8_0 ?_ | refine call_9_0 ?_ | refine call_10_0 ?_ | refine call_11_0 ?_ | refine call_12_0 ?_ | refine call_13_0 ?_ | refine call_14_0 ?_ | refine call_0_0 ?_ | refine call_11_1 ?_ | refine call_11_2 ?_); (with_reducible conv => whnf))
    refine ⟨mulR64 (by decide) (by decide), ?_⟩
    (with_reducible conv => whnf); repeat ((first | refine ite_t rfl ?_ | refine ite_f rfl ?_ | rw [atI_0] | rw [atI_1] | refine call_1_0 ?_ | refine call_2_0 ?_ | refine call_3_0 ?_ | refine call_4_0 ?_ | refine call_5_0 ?_ | refine call_6_0 ?_ | refine call_7_0 ?_ | refine call_8_0 ?_ | refine call_9_0 ?_ | refine call_10_0 ?_ | refine call_11_0 ?_ | refine call_12_0 ?_ | refine call_13_0 ?_ | refine call_14_0 ?_ | refine call_0_0 ?_ | refine call_11_1 ?_ | refine call_11_2 ?_); (with_reducible conv => whnf))
    refine ⟨mulL64 (by decide) (by decide), ?_⟩
    (with_reducible conv => whnf); repeat ((first | refine ite_t rfl ?_ | refine ite_f rfl ?_ | rw [atI_0] | rw [atI_1] | refine call_1_0 ?_ | refine call_2_0 ?_ | refine call_3_0 ?_ | refine call_4_0 ?_ | refine call_5_0 ?_ | refine call_6_0 ?_ | refine call_7_0 ?_ | refine call_8_0 ?_ | refine call_9_0 ?_ | refine call_10_0 ?_ | refine call_11_0 ?_ | refine call_12_0 ?_ | refine call_13_0 ?_ | refine call_14_0 ?_ | refine call_0_0 ?_ | refine call_11_1 ?_ | refine call_11_2 ?_); (with_reducible conv => whnf))
    refine ⟨mulR64 (by omega) (by omega), ?_⟩
    (with_reducible conv => whnf); repeat ((first | refine ite_t rfl ?_ | refine ite_f rfl ?_ | rw [atI_0] | rw [atI_1] | refine call_1_0 ?_ | refine call_2_0 ?_ | refine call_3_0 ?_ | refine call_4_0 ?_ | refine call_5_0 ?_ | refine call_6_0 ?_ | refine call_7_0 ?_ | refine call_8_0 ?_ | refine call_9_0 ?_ | refine call_10_0 ?_ | refine call_11_0 ?_ | refine call_12_0 ?_ | refine call_13_0 ?_ | refine call_14_0 ?_ | refine call_0_0 ?_ | refine call_11_1 ?_ | refine call_11_2 ?_); (with_reducible conv => whnf))
    generalize (cell * 48271 + 977 * (k : Int) * k + 13) = mix
    refine ⟨by constructor <;> decide, ?_⟩
    refine loopF_keep (enc := fun i : Nat => .int (0 + (i : Int) * 1)) (l := List.range 27) (fun ρ h' => ∃ m f o, ρ = [some (.scr is), some (.int k), some (.int cell), some (.int m), some (.int f), o] ∧ h' = h) ?_ ?_ ⟨mix, 0, none, rfl, rfl⟩
    · rintro ρ h' ⟨m, f, o, rfl, rfl⟩
      (with_reducible conv => whnf); repeat ((first | refine ite_t rfl ?_ | refine ite_f rfl ?_ | rw [atI_0] | rw [atI_1] | refine call_1_0 ?_ | refine call_2_0 ?_ | refine call_3_0 ?_ | refine call_4_0 ?_ | refine call_5_0 ?_ | refine call_6_0 ?_ | refine call_7_0 ?_ | refine call_8_0 ?_ | refine call_9_0 ?_ | refine call_10_0 ?_ | refine call_11_0 ?_ | refine call_12_0 ?_ | refine call_13_0 ?_ | refine call_14_0 ?_ | refine call_0_0 ?_ | refine call_11_1 ?_ | refine call_11_2 ?_); (with_reducible conv => whnf))
      exact ⟨(by decide : 1 ≤ sizeLine), fun a e => hQ a _ e⟩
    · rintro i ρ h' K hi ⟨m, f, o, rfl, rfl⟩ hK
      have hi := List.mem_range.mp hi
      (with_reducible conv => whnf); repeat ((first | refine ite_t rfl ?_ | refine ite_f rfl ?_ | rw [atI_0] | rw [atI_1] | refine call_1_0 ?_ | refine call_2_0 ?_ | refine call_3_0 ?_ | refine call_4_0 ?_ | refine call_5_0 ?_ | refine call_6_0 ?_ | refine call_7_0 ?_ | refine call_8_0 ?_ | refine call_9_0 ?_ | refine call_10_0 ?_ | refine call_11_0 ?_ | refine call_12_0 ?_ | refine call_13_0 ?_ | refine call_14_0 ?_ | refine call_0_0 ?_ | refine call_11_1 ?_ | refine call_11_2 ?_); (with_reducible conv => whnf))
      refine ⟨by decide, ?_⟩
      (with_reducible conv => whnf); repeat ((first | refine ite_t rfl ?_ | refine ite_f rfl ?_ | rw [atI_0] | rw [atI_1] | refine call_1_0 ?_ | refine call_2_0 ?_ | refine call_3_0 ?_ | refine call_4_0 ?_ | refine call_5_0 ?_ | refine call_6_0 ?_ | refine call_7_0 ?_ | refine call_8_0 ?_ | refine call_9_0 ?_ | refine call_10_0 ?_ | refine call_11_0 ?_ | refine call_12_0 ?_ | refine call_13_0 ?_ | refine call_14_0 ?_ | refine call_0_0 ?_ | refine call_11_1 ?_ | refine call_11_2 ?_); (with_reducible conv => whnf))
      refine ⟨mulR64 (by decide) (by decide), ?_⟩
      (with_reducible conv => whnf); repeat ((first | refine ite_t rfl ?_ | refine ite_f rfl ?_ | rw [atI_0] | rw [atI_1] | refine call_1_0 ?_ | refine call_2_0 ?_ | refine call_3_0 ?_ | refine call_4_0 ?_ | refine call_5_0 ?_ | refine call_6_0 ?_ | refine call_7_0 ?_ | refine call_8_0 ?_ | refine call_9_0 ?_ | refine call_10_0 ?_ | refine call_11_0 ?_ | refine call_12_0 ?_ | refine call_13_0 ?_ | refine call_14_0 ?_ | refine call_0_0 ?_ | refine call_11_1 ?_ | refine call_11_2 ?_); (with_reducible conv => whnf))
      refine ⟨mulL64 (by decide) (by decide), ?_⟩
      (with_reducible conv => whnf); repeat ((first | refine ite_t rfl ?_ | refine ite_f rfl ?_ | rw [atI_0] | rw [atI_1] | refine call_1_0 ?_ | refine call_2_0 ?_ | refine call_3_0 ?_ | refine call_4_0 ?_ | refine call_5_0 ?_ | refine call_6_0 ?_ | refine call_7_0 ?_ | refine call_8_0 ?_ | refine call_9_0 ?_ | refine call_10_0 ?_ | refine call_11_0 ?_ | refine call_12_0 ?_ | refine call_13_0 ?_ | refine call_14_0 ?_ | refine call_0_0 ?_ | refine call_11_1 ?_ | refine call_11_2 ?_); (with_reducible conv => whnf))
      refine ⟨by decide, ?_⟩
      (with_reducible conv => whnf); repeat ((first | refine ite_t rfl ?_ | refine ite_f rfl ?_ | rw [atI_0] | rw [atI_1] | refine call_1_0 ?_ | refine call_2_0 ?_ | refine call_3_0 ?_ | refine call_4_0 ?_ | refine call_5_0 ?_ | refine call_6_0 ?_ | refine call_7_0 ?_ | refine call_8_0 ?_ | refine call_9_0 ?_ | refine call_10_0 ?_ | refine call_11_0 ?_ | refine call_12_0 ?_ | refine call_13_0 ?_ | refine call_14_0 ?_ | refine call_0_0 ?_ | refine call_11_1 ?_ | refine call_11_2 ?_); (with_reducible conv => whnf))
      generalize hx : (m % 999999999989 * 69621 + 40503 * (0 + (i : Int) * 1) + 271) % 999999999989 = x
      have x1 : 0 ≤ x := by rw [← hx]; exact Int.emod_nonneg _ (by decide)
      have x2 : x < 999999999989 := by rw [← hx]; exact Int.emod_lt_of_pos _ (by decide)
      refine ⟨⟨by decide, by decide, by decide⟩, ?_⟩
      (with_reducible conv => whnf); repeat ((first | refine ite_t rfl ?_ | refine ite_f rfl ?_ | rw [atI_0] | rw [atI_1] | refine call_1_0 ?_ | refine call_2_0 ?_ | refine call_3_0 ?_ | refine call_4_0 ?_ | refine call_5_0 ?_ | refine call_6_0 ?_ | refine call_7_0 ?_ | refine call_8_0 ?_ | refine call_9_0 ?_ | refine call_10_0 ?_ | refine call_11_0 ?_ | refine call_12_0 ?_ | refine call_13_0 ?_ | refine call_14_0 ?_ | refine call_0_0 ?_ | refine call_11_1 ?_ | refine call_11_2 ?_); (with_reducible conv => whnf))
      refine ⟨mulR64 (by decide) (by decide), ?_⟩
      (with_reducible conv => whnf); repeat ((first | refine ite_t rfl ?_ | refine ite_f rfl ?_ | rw [atI_0] | rw [atI_1] | refine call_1_0 ?_ | refine call_2_0 ?_ | refine call_3_0 ?_ | refine call_4_0 ?_ | refine call_5_0 ?_ | refine call_6_0 ?_ | refine call_7_0 ?_ | refine call_8_0 ?_ | refine call_9_0 ?_ | refine call_10_0 ?_ | refine call_11_0 ?_ | refine call_12_0 ?_ | refine call_13_0 ?_ | refine call_14_0 ?_ | refine call_0_0 ?_ | refine call_11_1 ?_ | refine call_11_2 ?_); (with_reducible conv => whnf))
      refine ⟨by decide, ?_⟩
      (with_reducible conv => whnf); repeat ((first | refine ite_t rfl ?_ | refine ite_f rfl ?_ | rw [atI_0] | rw [atI_1] | refine call_1_0 ?_ | refine call_2_0 ?_ | refine call_3_0 ?_ | refine call_4_0 ?_ | refine call_5_0 ?_ | refine call_6_0 ?_ | refine call_7_0 ?_ | refine call_8_0 ?_ | refine call_9_0 ?_ | refine call_10_0 ?_ | refine call_11_0 ?_ | refine call_12_0 ?_ | refine call_13_0 ?_ | refine call_14_0 ?_ | refine call_0_0 ?_ | refine call_11_1 ?_ | refine call_11_2 ?_); (with_reducible conv => whnf))
      refine ⟨mulL64 (by omega) (by omega), ?_⟩
      (with_reducible conv => whnf); repeat ((first | refine ite_t rfl ?_ | refine ite_f rfl ?_ | rw [atI_0] | rw [atI_1] | refine call_1_0 ?_ | refine call_2_0 ?_ | refine call_3_0 ?_ | refine call_4_0 ?_ | refine call_5_0 ?_ | refine call_6_0 ?_ | refine call_7_0 ?_ | refine call_8_0 ?_ | refine call_9_0 ?_ | refine call_10_0 ?_ | refine call_11_0 ?_ | refine call_12_0 ?_ | refine call_13_0 ?_ | refine call_14_0 ?_ | refine call_0_0 ?_ | refine call_11_1 ?_ | refine call_11_2 ?_); (with_reducible conv => whnf))
      refine ⟨by decide, ?_⟩
      (with_reducible conv => whnf); repeat ((first | refine ite_t rfl ?_ | refine ite_f rfl ?_ | rw [atI_0] | rw [atI_1] | refine call_1_0 ?_ | refine call_2_0 ?_ | refine call_3_0 ?_ | refine call_4_0 ?_ | refine call_5_0 ?_ | refine call_6_0 ?_ | refine call_7_0 ?_ | refine call_8_0 ?_ | refine call_9_0 ?_ | refine call_10_0 ?_ | refine call_11_0 ?_ | refine call_12_0 ?_ | refine call_13_0 ?_ | refine call_14_0 ?_ | refine call_0_0 ?_ | refine call_11_1 ?_ | refine call_11_2 ?_); (with_reducible conv => whnf))
      exact hK _ _ ⟨_, _, _, rfl, rfl⟩
end K03
namespace K03
open Y
open PySem (sizeLine)
open L2 (atI ixN)
theorem hupd_other {h : Hd} {a b : PySem.Addr} {d : D} (e : b ≠ a) : hupd h a d b = h b := if_neg e
theorem pick3 {d : Nat} (h : d < 3) : ∃ w : Nat, atI [D.int 3, D.int 12, D.int (10 ^ (6 : Int).toNat)] (d : Int) = some (.int w) ∧ 3 ≤ w ∧ w ≤ 10 ^ 6 := by
  match d, h with
  | 0, _ => exact ⟨3, rfl, by decide, by decide⟩
  | 1, _ => exact ⟨12, rfl, by decide, by decide⟩
  | 2, _ => exact ⟨10 ^ 6, rfl, by decide, by decide⟩
theorem pick2 {d w : Nat} (h : d < 2) (hw : 3 ≤ w) : ∃ v : Nat, atI [D.int 1, D.int w] (d : Int) = some (.int v) ∧ 1 ≤ v ∧ v ≤ w := by
  match d, h with
  | 0, _ => exact ⟨1, rfl, by omega, by omega⟩
  | 1, _ => exact ⟨w, rfl, by omega, by omega⟩
def Some_ (ps : List (Nat × Nat)) : Prop := ∀ p ∈ ps, 0 < p.2 ∧ Nat.gcd p.2 p.1 = 1 ∧ p.1 ≤ 10 ^ 6 ∧ p.2 ≤ 10 ^ 6
theorem intsOf_fst : ∀ ps : List (Nat × Nat), intsOf (ps.map fun p => D.int p.1) = some (ps.map fun p => (p.1 : Int))
  | [] => rfl
  | p :: ps => by rw [List.map_cons, intsOf, intsOf_fst ps]; rfl
theorem cut1 {α : Type} (l : List α) : cutD l (some 1) none = l.drop 1 := by
  unfold cutD
  rw [show HT.sIx l.length l.length none = l.length from rfl]
  have e : HT.sIx l.length 0 (some 1) = min 1 l.length := rfl
  rw [e]
  cases l with
  | nil => rfl
  | cons a r =>
    have : min 1 (a :: r).length = 1 := by simp
    rw [this]
    simp
theorem w_shares : Meets G N__law_shares 1 b__law_shares S_shares := by
  rintro ds h Q Xd - ⟨a, n, rfl, ha, hQ⟩
  (with_reducible conv => whnf); repeat ((first | refine ite_t rfl ?_ | refine ite_f rfl ?_ | rw [atI_0] | rw [atI_1] | refine call_1_0 ?_ | refine call_2_0 ?_ | refine call_3_0 ?_ | refine call_4_0 ?_ | refine call_5_0 ?_ | refine call_6_0 ?_ | refine call_7_0 ?_ | refine call_8_0 ?_ | refine call_9_0 ?_ | refine call_10_0 ?_ | refine call_11_0 ?_ | refine call_12_0 ?_ | refine call_13_0 ?_ | refine call_14_0 ?_ | refine call_0_0 ?_ | refine call_11_1 ?_ | refine call_11_2 ?_); (with_reducible conv => whnf))
  refine ⟨by decide, ?_⟩
  (with_reducible conv => whnf); repeat ((first | refine ite_t rfl ?_ | refine ite_f rfl ?_ | rw [atI_0] | rw [atI_1] | refine call_1_0 ?_ | refine call_2_0 ?_ | refine call_3_0 ?_ | refine call_4_0 ?_ | refine call_5_0 ?_ | refine call_6_0 ?_ | refine call_7_0 ?_ | refine call_8_0 ?_ | refine call_9_0 ?_ | refine call_10_0 ?_ | refine call_11_0 ?_ | refine call_12_0 ?_ | refine call_13_0 ?_ | refine call_14_0 ?_ | refine call_0_0 ?_ | refine call_11_1 ?_ | refine call_11_2 ?_); (with_reducible conv => whnf))
  intro F hF
  have aF : a ≠ F := fun z => by rw [z, hF] at ha; cases ha
  (with_reducible conv => whnf); repeat ((first | refine ite_t rfl ?_ | refine ite_f rfl ?_ | rw [atI_0] | rw [atI_1] | refine call_1_0 ?_ | refine call_2_0 ?_ | refine call_3_0 ?_ | refine call_4_0 ?_ | refine call_5_0 ?_ | refine call_6_0 ?_ | refine call_7_0 ?_ | refine call_8_0 ?_ | refine call_9_0 ?_ | refine call_10_0 ?_ | refine call_11_0 ?_ | refine call_12_0 ?_ | refine call_13_0 ?_ | refine call_14_0 ?_ | refine call_0_0 ?_ | refine call_11_1 ?_ | refine call_11_2 ?_); (with_reducible conv => whnf))
  refine ⟨a, n, 10, rfl, by rw [hupd_other aF]; exact ha, by decide, by decide, fun d n' hd => ?_⟩
  (with_reducible conv => whnf); repeat ((first | refine ite_t rfl ?_ | refine ite_f rfl ?_ | rw [atI_0] | rw [atI_1] | refine call_1_0 ?_ | refine call_2_0 ?_ | refine call_3_0 ?_ | refine call_4_0 ?_ | refine call_5_0 ?_ | refine call_6_0 ?_ | refine call_7_0 ?_ | refine call_8_0 ?_ | refine call_9_0 ?_ | refine call_10_0 ?_ | refine call_11_0 ?_ | refine call_12_0 ?_ | refine call_13_0 ?_ | refine call_14_0 ?_ | refine call_0_0 ?_ | refine call_11_1 ?_ | refine call_11_2 ?_); (with_reducible conv => whnf))
  refine ⟨by constructor <;> omega, ?_⟩
  refine loopF_rule (enc := fun i : Nat => .int (0 + (i : Int) * 1)) (l := List.range (1 + (d : Int)).toNat) (fun pre ρ h' => ∃ ps m o2 o3 o4 o5, ρ = [some (.ref a), some (.ref F), o2, o3, o4, o5] ∧ h' = hupd (hupd h a (.lst [.int m])) F (.lst (ps.map shD)) ∧ ps.length = pre.length ∧ Some_ ps) ?_ ?_ ⟨[], n', none, none, none, none, rfl, by rw [hupd_comm aF.symm]; rfl, rfl, fun p hp => by cases hp⟩
  · rintro ρ h' ⟨ps, m, o2, o3, o4, o5, rfl, rfl, hl, hs⟩
    have hl1 : ps.length = d + 1 := by rw [hl, List.length_range]; omega
    have hF' : hupd h a (.lst [.int m]) F = none := by rw [hupd_other aF.symm]; exact hF
    (with_reducible conv => whnf); repeat ((first | refine ite_t rfl ?_ | refine ite_f rfl ?_ | rw [atI_0] | rw [atI_1] | refine call_1_0 ?_ | refine call_2_0 ?_ | refine call_3_0 ?_ | refine call_4_0 ?_ | refine call_5_0 ?_ | refine call_6_0 ?_ | refine call_7_0 ?_ | refine call_8_0 ?_ | refine call_9_0 ?_ | refine call_10_0 ?_ | refine call_11_0 ?_ | refine call_12_0 ?_ | refine call_13_0 ?_ | refine call_14_0 ?_ | refine call_0_0 ?_ | refine call_11_1 ?_ | refine call_11_2 ?_); (with_reducible conv => whnf))
    rw [hupd_same]
    (with_reducible conv => whnf); repeat ((first | refine ite_t rfl ?_ | refine ite_f rfl ?_ | rw [atI_0] | rw [atI_1] | refine call_1_0 ?_ | refine call_2_0 ?_ | refine call_3_0 ?_ | refine call_4_0 ?_ | refine call_5_0 ?_ | refine call_6_0 ?_ | refine call_7_0 ?_ | refine call_8_0 ?_ | refine call_9_0 ?_ | refine call_10_0 ?_ | refine call_11_0 ?_ | refine call_12_0 ?_ | refine call_13_0 ?_ | refine call_14_0 ?_ | refine call_0_0 ?_ | refine call_11_1 ?_ | refine call_11_2 ?_); (with_reducible conv => whnf))
    rw [hdel_hupd hF']
    intro A hA
    refine loopC_map (fun p => .int p.1) (len_ok (by omega)) (fun p hp K k => ?_) ?_
    · (with_reducible conv => whnf); repeat ((first | refine ite_t rfl ?_ | refine ite_f rfl ?_ | rw [atI_0] | rw [atI_1] | refine call_1_0 ?_ | refine call_2_0 ?_ | refine call_3_0 ?_ | refine call_4_0 ?_ | refine call_5_0 ?_ | refine call_6_0 ?_ | refine call_7_0 ?_ | refine call_8_0 ?_ | refine call_9_0 ?_ | refine call_10_0 ?_ | refine call_11_0 ?_ | refine call_12_0 ?_ | refine call_13_0 ?_ | refine call_14_0 ?_ | refine call_0_0 ?_ | refine call_11_1 ?_ | refine call_11_2 ?_); (with_reducible conv => whnf))
      exact ⟨rfl, k⟩
    (with_reducible conv => whnf); repeat ((first | refine ite_t rfl ?_ | refine ite_f rfl ?_ | rw [atI_0] | rw [atI_1] | refine call_1_0 ?_ | refine call_2_0 ?_ | refine call_3_0 ?_ | refine call_4_0 ?_ | refine call_5_0 ?_ | refine call_6_0 ?_ | refine call_7_0 ?_ | refine call_8_0 ?_ | refine call_9_0 ?_ | refine call_10_0 ?_ | refine call_11_0 ?_ | refine call_12_0 ?_ | refine call_13_0 ?_ | refine call_14_0 ?_ | refine call_0_0 ?_ | refine call_11_1 ?_ | refine call_11_2 ?_); (with_reducible conv => whnf))
    rw [intsOf_fst]
    (with_reducible conv => whnf); repeat ((first | refine ite_t rfl ?_ | refine ite_f rfl ?_ | rw [atI_0] | rw [atI_1] | refine call_1_0 ?_ | refine call_2_0 ?_ | refine call_3_0 ?_ | refine call_4_0 ?_ | refine call_5_0 ?_ | refine call_6_0 ?_ | refine call_7_0 ?_ | refine call_8_0 ?_ | refine call_9_0 ?_ | refine call_10_0 ?_ | refine call_11_0 ?_ | refine call_12_0 ?_ | refine call_13_0 ?_ | refine call_14_0 ?_ | refine call_0_0 ?_ | refine call_11_1 ?_ | refine call_11_2 ?_); (with_reducible conv => whnf))
    refine ⟨by cases ps with
      | nil => simp at hl1
      | cons => simp, ?_⟩
    (with_reducible conv => whnf); repeat ((first | refine ite_t rfl ?_ | refine ite_f rfl ?_ | rw [atI_0] | rw [atI_1] | refine call_1_0 ?_ | refine call_2_0 ?_ | refine call_3_0 ?_ | refine call_4_0 ?_ | refine call_5_0 ?_ | refine call_6_0 ?_ | refine call_7_0 ?_ | refine call_8_0 ?_ | refine call_9_0 ?_ | refine call_10_0 ?_ | refine call_11_0 ?_ | refine call_12_0 ?_ | refine call_13_0 ?_ | refine call_14_0 ?_ | refine call_0_0 ?_ | refine call_11_1 ?_ | refine call_11_2 ?_); (with_reducible conv => whnf))
    rw [hdel_hupd hA]
    have v : ∀ p ∈ ps, 0 < p.2 ∧ Nat.gcd p.2 p.1 = 1 ∧ p.1 < 2 ^ 40 ∧ p.2 < 2 ^ 40 := fun p hp => by
      obtain ⟨z1, z2, z3, z4⟩ := hs p hp
      exact ⟨z1, z2, by omega, by omega⟩
    by_cases c : 0 < maxL (ps.map fun p => (p.1 : Int))
    · refine ite_t (decide_eq_true c) ?_
      (with_reducible conv => whnf); repeat ((first | refine ite_t rfl ?_ | refine ite_f rfl ?_ | rw [atI_0] | rw [atI_1] | refine call_1_0 ?_ | refine call_2_0 ?_ | refine call_3_0 ?_ | refine call_4_0 ?_ | refine call_5_0 ?_ | refine call_6_0 ?_ | refine call_7_0 ?_ | refine call_8_0 ?_ | refine call_9_0 ?_ | refine call_10_0 ?_ | refine call_11_0 ?_ | refine call_12_0 ?_ | refine call_13_0 ?_ | refine call_14_0 ?_ | refine call_0_0 ?_ | refine call_11_1 ?_ | refine call_11_2 ?_); (with_reducible conv => whnf))
      refine hQ ps m ⟨by omega, v, ?_⟩ (by omega) fun p hp => (hs p hp).2.2
      have hne : (ps.map fun p => (p.1 : Int)) ≠ [] := by cases ps with
        | nil => simp at hl1
        | cons => simp
      obtain ⟨p, hp, e⟩ := List.mem_map.mp (maxL_mem hne).1
      exact ⟨p, hp, by rw [← e] at c; omega⟩
    · refine ite_f (decide_eq_false c) ?_
      (with_reducible conv => whnf); repeat ((first | refine ite_t rfl ?_ | refine ite_f rfl ?_ | rw [atI_0] | rw [atI_1] | refine call_1_0 ?_ | refine call_2_0 ?_ | refine call_3_0 ?_ | refine call_4_0 ?_ | refine call_5_0 ?_ | refine call_6_0 ?_ | refine call_7_0 ?_ | refine call_8_0 ?_ | refine call_9_0 ?_ | refine call_10_0 ?_ | refine call_11_0 ?_ | refine call_12_0 ?_ | refine call_13_0 ?_ | refine call_14_0 ?_ | refine call_0_0 ?_ | refine call_11_1 ?_ | refine call_11_2 ?_); (with_reducible conv => whnf))
      refine ⟨(by decide : 2 ≤ sizeLine), ?_⟩
      (with_reducible conv => whnf); repeat ((first | refine ite_t rfl ?_ | refine ite_f rfl ?_ | rw [atI_0] | rw [atI_1] | refine call_1_0 ?_ | refine call_2_0 ?_ | refine call_3_0 ?_ | refine call_4_0 ?_ | refine call_5_0 ?_ | refine call_6_0 ?_ | refine call_7_0 ?_ | refine call_8_0 ?_ | refine call_9_0 ?_ | refine call_10_0 ?_ | refine call_11_0 ?_ | refine call_12_0 ?_ | refine call_13_0 ?_ | refine call_14_0 ?_ | refine call_0_0 ?_ | refine call_11_1 ?_ | refine call_11_2 ?_); (with_reducible conv => whnf))
      refine ⟨(by decide : 1 ≤ sizeLine), ?_⟩
      (with_reducible conv => whnf); repeat ((first | refine ite_t rfl ?_ | refine ite_f rfl ?_ | rw [atI_0] | rw [atI_1] | refine call_1_0 ?_ | refine call_2_0 ?_ | refine call_3_0 ?_ | refine call_4_0 ?_ | refine call_5_0 ?_ | refine call_6_0 ?_ | refine call_7_0 ?_ | refine call_8_0 ?_ | refine call_9_0 ?_ | refine call_10_0 ?_ | refine call_11_0 ?_ | refine call_12_0 ?_ | refine call_13_0 ?_ | refine call_14_0 ?_ | refine call_0_0 ?_ | refine call_11_1 ?_ | refine call_11_2 ?_); (with_reducible conv => whnf))
      rw [cut1]
      have e : [D.tup [D.int 1, D.int 1]] ++ (ps.map shD).drop 1 = ((1, 1) :: ps.drop 1).map shD := by
        rw [List.map_cons, List.map_drop]; rfl
      rw [e]
      have lq : ((1, 1) :: ps.drop 1 : List (Nat × Nat)).length ≤ 10 := by simp; omega
      refine ⟨by rw [List.length_map]; exact len_ok (by omega), ?_⟩
      have sub : ∀ p ∈ ((1, 1) :: ps.drop 1 : List (Nat × Nat)), p = (1, 1) ∨ p ∈ ps := fun p hp => by
        rcases List.mem_cons.mp hp with z | z
        · exact .inl z
        · exact .inr (List.mem_of_mem_drop z)
      refine hQ ((1, 1) :: ps.drop 1) m ⟨⟨by simp, by omega⟩, fun p hp => ?_, (1, 1), List.mem_cons_self, by decide⟩ lq fun p hp => ?_
      · rcases sub p hp with z | z
        · subst z; exact ⟨by decide, by decide, by decide, by decide⟩
        · exact v p z
      · rcases sub p hp with z | z
        · subst z; exact ⟨by decide, by decide⟩
        · exact (hs p z).2.2
  · rintro pre i suf ρ h' K e ⟨ps, m, o2, o3, o4, o5, rfl, rfl, hl, hs⟩ hK
    have get : ∀ m' l, hupd (hupd h a (.lst [.int m'])) F l a = some (.lst [.int m']) := fun m' l => by rw [hupd_other aF, hupd_same]
    have put : ∀ m' m'' l, hupd (hupd (hupd h a (.lst [.int m'])) F l) a (.lst [.int m'']) = hupd (hupd h a (.lst [.int m''])) F l := fun m' m'' l => by rw [hupd_comm aF.symm, hupd_hupd]
    (with_reducible conv => whnf); repeat ((first | refine ite_t rfl ?_ | refine ite_f rfl ?_ | rw [atI_0] | rw [atI_1] | refine call_1_0 ?_ | refine call_2_0 ?_ | refine call_3_0 ?_ | refine call_4_0 ?_ | refine call_5_0 ?_ | refine call_6_0 ?_ | refine call_7_0 ?_ | refine call_8_0 ?_ | refine call_9_0 ?_ | refine call_10_0 ?_ | refine call_11_0 ?_ | refine call_12_0 ?_ | refine call_13_0 ?_ | refine call_14_0 ?_ | refine call_0_0 ?_ | refine call_11_1 ?_ | refine call_11_2 ?_); (with_reducible conv => whnf))
    refine ⟨⟨by decide, by decide, by decide⟩, (by decide : 3 ≤ sizeLine), ?_⟩
    (with_reducible conv => whnf); repeat ((first | refine ite_t rfl ?_ | refine ite_f rfl ?_ | rw [atI_0] | rw [atI_1] | refine call_1_0 ?_ | refine call_2_0 ?_ | refine call_3_0 ?_ | refine call_4_0 ?_ | refine call_5_0 ?_ | refine call_6_0 ?_ | refine call_7_0 ?_ | refine call_8_0 ?_ | refine call_9_0 ?_ | refine call_10_0 ?_ | refine call_11_0 ?_ | refine call_12_0 ?_ | refine call_13_0 ?_ | refine call_14_0 ?_ | refine call_0_0 ?_ | refine call_11_1 ?_ | refine call_11_2 ?_); (with_reducible conv => whnf))
    refine ⟨a, m, 3, rfl, get _ _, by decide, by decide, fun d1 n1 hd1 => ?_⟩
    rw [put]
    obtain ⟨w, ew, w1, w2⟩ := pick3 (d := d1) (by omega)
    (with_reducible conv => whnf); repeat ((first | refine ite_t rfl ?_ | refine ite_f rfl ?_ | rw [atI_0] | rw [atI_1] | refine call_1_0 ?_ | refine call_2_0 ?_ | refine call_3_0 ?_ | refine call_4_0 ?_ | refine call_5_0 ?_ | refine call_6_0 ?_ | refine call_7_0 ?_ | refine call_8_0 ?_ | refine call_9_0 ?_ | refine call_10_0 ?_ | refine call_11_0 ?_ | refine call_12_0 ?_ | refine call_13_0 ?_ | refine call_14_0 ?_ | refine call_0_0 ?_ | refine call_11_1 ?_ | refine call_11_2 ?_); (with_reducible conv => whnf))
    rw [ew]
    (with_reducible conv => whnf); repeat ((first | refine ite_t rfl ?_ | refine ite_f rfl ?_ | rw [atI_0] | rw [atI_1] | refine call_1_0 ?_ | refine call_2_0 ?_ | refine call_3_0 ?_ | refine call_4_0 ?_ | refine call_5_0 ?_ | refine call_6_0 ?_ | refine call_7_0 ?_ | refine call_8_0 ?_ | refine call_9_0 ?_ | refine call_10_0 ?_ | refine call_11_0 ?_ | refine call_12_0 ?_ | refine call_13_0 ?_ | refine call_14_0 ?_ | refine call_0_0 ?_ | refine call_11_1 ?_ | refine call_11_2 ?_); (with_reducible conv => whnf))
    refine ⟨a, n1, (w : Int) + 1, rfl, get _ _, by omega, by omega, fun d2 n2 hd2 => ?_⟩
    rw [put]
    (with_reducible conv => whnf); repeat ((first | refine ite_t rfl ?_ | refine ite_f rfl ?_ | rw [atI_0] | rw [atI_1] | refine call_1_0 ?_ | refine call_2_0 ?_ | refine call_3_0 ?_ | refine call_4_0 ?_ | refine call_5_0 ?_ | refine call_6_0 ?_ | refine call_7_0 ?_ | refine call_8_0 ?_ | refine call_9_0 ?_ | refine call_10_0 ?_ | refine call_11_0 ?_ | refine call_12_0 ?_ | refine call_13_0 ?_ | refine call_14_0 ?_ | refine call_0_0 ?_ | refine call_11_1 ?_ | refine call_11_2 ?_); (with_reducible conv => whnf))
    refine ⟨(by decide : 2 ≤ sizeLine), ?_⟩
    (with_reducible conv => whnf); repeat ((first | refine ite_t rfl ?_ | refine ite_f rfl ?_ | rw [atI_0] | rw [atI_1] | refine call_1_0 ?_ | refine call_2_0 ?_ | refine call_3_0 ?_ | refine call_4_0 ?_ | refine call_5_0 ?_ | refine call_6_0 ?_ | refine call_7_0 ?_ | refine call_8_0 ?_ | refine call_9_0 ?_ | refine call_10_0 ?_ | refine call_11_0 ?_ | refine call_12_0 ?_ | refine call_13_0 ?_ | refine call_14_0 ?_ | refine call_0_0 ?_ | refine call_11_1 ?_ | refine call_11_2 ?_); (with_reducible conv => whnf))
    refine ⟨a, n2, 2, rfl, get _ _, by decide, by decide, fun d3 n3 hd3 => ?_⟩
    rw [put]
    obtain ⟨v, ev, v1, v2⟩ := pick2 (d := d3) (w := w) (by omega) w1
    (with_reducible conv => whnf); repeat ((first | refine ite_t rfl ?_ | refine ite_f rfl ?_ | rw [atI_0] | rw [atI_1] | refine call_1_0 ?_ | refine call_2_0 ?_ | refine call_3_0 ?_ | refine call_4_0 ?_ | refine call_5_0 ?_ | refine call_6_0 ?_ | refine call_7_0 ?_ | refine call_8_0 ?_ | refine call_9_0 ?_ | refine call_10_0 ?_ | refine call_11_0 ?_ | refine call_12_0 ?_ | refine call_13_0 ?_ | refine call_14_0 ?_ | refine call_0_0 ?_ | refine call_11_1 ?_ | refine call_11_2 ?_); (with_reducible conv => whnf))
    rw [ev]
    (with_reducible conv => whnf); repeat ((first | refine ite_t rfl ?_ | refine ite_f rfl ?_ | rw [atI_0] | rw [atI_1] | refine call_1_0 ?_ | refine call_2_0 ?_ | refine call_3_0 ?_ | refine call_4_0 ?_ | refine call_5_0 ?_ | refine call_6_0 ?_ | refine call_7_0 ?_ | refine call_8_0 ?_ | refine call_9_0 ?_ | refine call_10_0 ?_ | refine call_11_0 ?_ | refine call_12_0 ?_ | refine call_13_0 ?_ | refine call_14_0 ?_ | refine call_0_0 ?_ | refine call_11_1 ?_ | refine call_11_2 ?_); (with_reducible conv => whnf))
    refine ⟨a, n3, v, rfl, get _ _, by omega, by omega, fun d4 n4 hd4 => ?_⟩
    rw [put]
    (with_reducible conv => whnf); repeat ((first | refine ite_t rfl ?_ | refine ite_f rfl ?_ | rw [atI_0] | rw [atI_1] | refine call_1_0 ?_ | refine call_2_0 ?_ | refine call_3_0 ?_ | refine call_4_0 ?_ | refine call_5_0 ?_ | refine call_6_0 ?_ | refine call_7_0 ?_ | refine call_8_0 ?_ | refine call_9_0 ?_ | refine call_10_0 ?_ | refine call_11_0 ?_ | refine call_12_0 ?_ | refine call_13_0 ?_ | refine call_14_0 ?_ | refine call_0_0 ?_ | refine call_11_1 ?_ | refine call_11_2 ?_); (with_reducible conv => whnf))
    refine ⟨⟨_, seqL_ref hupd_same⟩, ?_⟩
    (with_reducible conv => whnf); repeat ((first | refine ite_t rfl ?_ | refine ite_f rfl ?_ | rw [atI_0] | rw [atI_1] | refine call_1_0 ?_ | refine call_2_0 ?_ | refine call_3_0 ?_ | refine call_4_0 ?_ | refine call_5_0 ?_ | refine call_6_0 ?_ | refine call_7_0 ?_ | refine call_8_0 ?_ | refine call_9_0 ?_ | refine call_10_0 ?_ | refine call_11_0 ?_ | refine call_12_0 ?_ | refine call_13_0 ?_ | refine call_14_0 ?_ | refine call_0_0 ?_ | refine call_11_1 ?_ | refine call_11_2 ?_); (with_reducible conv => whnf))
    refine ⟨(d2, 1 + d4), rfl, by show 0 < 1 + d4; omega, by show 1 + d4 < 2 ^ 64; omega, ?_⟩
    (with_reducible conv => whnf); repeat ((first | refine ite_t rfl ?_ | refine ite_f rfl ?_ | rw [atI_0] | rw [atI_1] | refine call_1_0 ?_ | refine call_2_0 ?_ | refine call_3_0 ?_ | refine call_4_0 ?_ | refine call_5_0 ?_ | refine call_6_0 ?_ | refine call_7_0 ?_ | refine call_8_0 ?_ | refine call_9_0 ?_ | refine call_10_0 ?_ | refine call_11_0 ?_ | refine call_12_0 ?_ | refine call_13_0 ?_ | refine call_14_0 ?_ | refine call_0_0 ?_ | refine call_11_1 ?_ | refine call_11_2 ?_); (with_reducible conv => whnf))
    rw [hupd_same]
    (with_reducible conv => whnf); repeat ((first | refine ite_t rfl ?_ | refine ite_f rfl ?_ | rw [atI_0] | rw [atI_1] | refine call_1_0 ?_ | refine call_2_0 ?_ | refine call_3_0 ?_ | refine call_4_0 ?_ | refine call_5_0 ?_ | refine call_6_0 ?_ | refine call_7_0 ?_ | refine call_8_0 ?_ | refine call_9_0 ?_ | refine call_10_0 ?_ | refine call_11_0 ?_ | refine call_12_0 ?_ | refine call_13_0 ?_ | refine call_14_0 ?_ | refine call_0_0 ?_ | refine call_11_1 ?_ | refine call_11_2 ?_); (with_reducible conv => whnf))
    have hlen : ps.length < d + 1 := by
      have := congrArg List.length e
      rw [List.length_range, List.length_append, List.length_cons] at this
      omega
    refine ⟨by rw [List.length_map]; exact Nat.lt_of_le_of_lt (by omega : ps.length ≤ 10) (by decide), ?_⟩
    (with_reducible conv => whnf); repeat ((first | refine ite_t rfl ?_ | refine ite_f rfl ?_ | rw [atI_0] | rw [atI_1] | refine call_1_0 ?_ | refine call_2_0 ?_ | refine call_3_0 ?_ | refine call_4_0 ?_ | refine call_5_0 ?_ | refine call_6_0 ?_ | refine call_7_0 ?_ | refine call_8_0 ?_ | refine call_9_0 ?_ | refine call_10_0 ?_ | refine call_11_0 ?_ | refine call_12_0 ?_ | refine call_13_0 ?_ | refine call_14_0 ?_ | refine call_0_0 ?_ | refine call_11_1 ?_ | refine call_11_2 ?_); (with_reducible conv => whnf))
    rw [hupd_hupd]
    obtain ⟨z1, z2, z3, z4, z5, z6⟩ := low_ok (p := (d2, 1 + d4)) (by show 0 < 1 + d4; omega)
    have z4 : (low (d2, 1 + d4)).1 ≤ d2 := z4
    have z5 : (low (d2, 1 + d4)).2 ≤ 1 + d4 := z5
    refine hK _ _ ⟨ps ++ [low (d2, 1 + d4)], n4, _, _, _, _, rfl, by rw [List.map_append]; rfl, by simp [hl], fun p hp => ?_⟩
    rcases List.mem_append.mp hp with q | q
    · exact hs p q
    · rw [List.mem_singleton.mp q]
      exact ⟨z1, z2, by omega, by omega⟩
end K03
namespace K03
open Y
open PySem (sizeLine)
open L2 (atI ixN)
theorem widen_app {α : Type} {z : α} : ∀ {ks : List Nat} {xs : List α} {k : Nat} {x : α}, ks.length = xs.length → widen z (ks ++ [k]) (xs ++ [x]) = widen z ks xs ++ (List.replicate k z ++ [x])
  | [], [], _, _, _ => rfl
  | [], _ :: _, _, _, e => by cases e
  | _ :: _, [], _, _, e => by cases e
  | k :: ks, y :: xs, _, _, e => by
    rw [List.cons_append, List.cons_append]
    unfold widen
    rw [widen_app (by simpa using e)]
    simp
theorem places_app : ∀ {ks : List Nat} {o k : Nat}, places o (ks ++ [k]) = places o ks ++ [o + ks.sum + ks.length + k]
  | [], o, k => by simp [places]
  | q :: ks, o, k => by
    rw [List.cons_append]
    unfold places
    rw [places_app]
    rw [List.cons_append, List.sum_cons, List.length_cons]
    congr 3
    omega
theorem rep_flat (k : Nat) : (List.replicate k [D.tup [D.int 0, D.int 1]]).flatten = (List.replicate k ((0, 1) : Nat × Nat)).map shD := by
  induction k with
  | zero => rfl
  | succ k ih => rw [List.replicate_succ, List.flatten_cons, ih, List.replicate_succ, List.map_cons]; rfl
theorem sum_le2 : ∀ {ks : List Nat}, (∀ k ∈ ks, k ≤ 2) → ks.sum ≤ 2 * ks.length
  | [], _ => by simp
  | k :: ks, h => by
    have := sum_le2 (ks := ks) fun x hx => h x (List.mem_cons_of_mem _ hx)
    have := h k List.mem_cons_self
    rw [List.sum_cons, List.length_cons]; omega
theorem hupd_id {h : Hd} {a : PySem.Addr} {d : D} (e : h a = some d) : hupd h a d = h := by
  funext b
  unfold hupd
  by_cases q : b = a
  · rw [if_pos q, q, e]
  · rw [if_neg q]
theorem w_between : Meets G N__law_between 2 b__law_between S_between := by
  rintro ds h Q Xd - ⟨a, n, ps, rfl, ha, hl, hQ⟩
  (with_reducible conv => whnf); repeat ((first | refine ite_t rfl ?_ | refine ite_f rfl ?_ | rw [atI_0] | rw [atI_1] | refine call_1_0 ?_ | refine call_2_0 ?_ | refine call_3_0 ?_ | refine call_4_0 ?_ | refine call_5_0 ?_ | refine call_6_0 ?_ | refine call_7_0 ?_ | refine call_8_0 ?_ | refine call_9_0 ?_ | refine call_10_0 ?_ | refine call_11_0 ?_ | refine call_12_0 ?_ | refine call_13_0 ?_ | refine call_14_0 ?_ | refine call_0_0 ?_ | refine call_11_1 ?_ | refine call_11_2 ?_); (with_reducible conv => whnf))
  refine ⟨(by decide : 0 ≤ sizeLine), fun F hF => ?_⟩
  (with_reducible conv => whnf); repeat ((first | refine ite_t rfl ?_ | refine ite_f rfl ?_ | rw [atI_0] | rw [atI_1] | refine call_1_0 ?_ | refine call_2_0 ?_ | refine call_3_0 ?_ | refine call_4_0 ?_ | refine call_5_0 ?_ | refine call_6_0 ?_ | refine call_7_0 ?_ | refine call_8_0 ?_ | refine call_9_0 ?_ | refine call_10_0 ?_ | refine call_11_0 ?_ | refine call_12_0 ?_ | refine call_13_0 ?_ | refine call_14_0 ?_ | refine call_0_0 ?_ | refine call_11_1 ?_ | refine call_11_2 ?_); (with_reducible conv => whnf))
  refine ⟨(by decide : 0 ≤ sizeLine), fun L hL => ?_⟩
  have aF : a ≠ F := fun z => by rw [z, hF] at ha; cases ha
  have LF : L ≠ F := fun z => by rw [z, hupd_same] at hL; cases hL
  rw [hupd_other LF] at hL
  have aL : a ≠ L := fun z => by rw [z, hL] at ha; cases ha
  (with_reducible conv => whnf); repeat ((first | refine ite_t rfl ?_ | refine ite_f rfl ?_ | rw [atI_0] | rw [atI_1] | refine call_1_0 ?_ | refine call_2_0 ?_ | refine call_3_0 ?_ | refine call_4_0 ?_ | refine call_5_0 ?_ | refine call_6_0 ?_ | refine call_7_0 ?_ | refine call_8_0 ?_ | refine call_9_0 ?_ | refine call_10_0 ?_ | refine call_11_0 ?_ | refine call_12_0 ?_ | refine call_13_0 ?_ | refine call_14_0 ?_ | refine call_0_0 ?_ | refine call_11_1 ?_ | refine call_11_2 ?_); (with_reducible conv => whnf))
  refine loopF_rule (fun pre ρ h' => ∃ (ks : List Nat) (m : Int) (F : PySem.Addr) (o4 : Option D), ρ = [some (.ref a), some (.tup (ps.map shD)), some (.ref F), some (.ref L), o4] ∧ h F = none ∧ F ≠ L ∧ ks.length = pre.length ∧ (∀ k ∈ ks, k ≤ 2) ∧
    h' = hupd (hupd (hupd h a (.lst [.int m])) L (.lst ((places 0 ks).map nD))) F (.lst ((widen (0, 1) ks pre).map shD))) ?_ ?_ ⟨[], n, F, none, rfl, hF, LF.symm, rfl, (fun k hk => by cases hk), ?_⟩
  · rintro ρ h' ⟨ks, m, F, o4, rfl, hF, FL, hk, h2, rfl⟩
    have aF : a ≠ F := fun z => by rw [z, hF] at ha; cases ha
    have x1 : hupd (hupd h a (.lst [.int m])) L (.lst ((places 0 ks).map nD)) F = none := by rw [hupd_other FL, hupd_other aF.symm]; exact hF
    have x2 : hupd h a (.lst [.int m]) L = none := by rw [hupd_other aL.symm]; exact hL
    (with_reducible conv => whnf); repeat ((first | refine ite_t rfl ?_ | refine ite_f rfl ?_ | rw [atI_0] | rw [atI_1] | refine call_1_0 ?_ | refine call_2_0 ?_ | refine call_3_0 ?_ | refine call_4_0 ?_ | refine call_5_0 ?_ | refine call_6_0 ?_ | refine call_7_0 ?_ | refine call_8_0 ?_ | refine call_9_0 ?_ | refine call_10_0 ?_ | refine call_11_0 ?_ | refine call_12_0 ?_ | refine call_13_0 ?_ | refine call_14_0 ?_ | refine call_0_0 ?_ | refine call_11_1 ?_ | refine call_11_2 ?_); (with_reducible conv => whnf))
    rw [hupd_same]
    (with_reducible conv => whnf); repeat ((first | refine ite_t rfl ?_ | refine ite_f rfl ?_ | rw [atI_0] | rw [atI_1] | refine call_1_0 ?_ | refine call_2_0 ?_ | refine call_3_0 ?_ | refine call_4_0 ?_ | refine call_5_0 ?_ | refine call_6_0 ?_ | refine call_7_0 ?_ | refine call_8_0 ?_ | refine call_9_0 ?_ | refine call_10_0 ?_ | refine call_11_0 ?_ | refine call_12_0 ?_ | refine call_13_0 ?_ | refine call_14_0 ?_ | refine call_0_0 ?_ | refine call_11_1 ?_ | refine call_11_2 ?_); (with_reducible conv => whnf))
    rw [hdel_hupd x1, hupd_same]
    (with_reducible conv => whnf); repeat ((first | refine ite_t rfl ?_ | refine ite_f rfl ?_ | rw [atI_0] | rw [atI_1] | refine call_1_0 ?_ | refine call_2_0 ?_ | refine call_3_0 ?_ | refine call_4_0 ?_ | refine call_5_0 ?_ | refine call_6_0 ?_ | refine call_7_0 ?_ | refine call_8_0 ?_ | refine call_9_0 ?_ | refine call_10_0 ?_ | refine call_11_0 ?_ | refine call_12_0 ?_ | refine call_13_0 ?_ | refine call_14_0 ?_ | refine call_0_0 ?_ | refine call_11_1 ?_ | refine call_11_2 ?_); (with_reducible conv => whnf))
    rw [hdel_hupd x2]
    exact ⟨(by decide : 2 ≤ sizeLine), hQ ks m hk h2⟩
  · rintro pre p suf ρ h' K e ⟨ks, m, F, o4, rfl, hF, FL, hk, h2, rfl⟩ hK
    have aF : a ≠ F := fun z => by rw [z, hF] at ha; cases ha
    have x1 : hupd (hupd h a (.lst [.int m])) L (.lst ((places 0 ks).map nD)) F = none := by rw [hupd_other FL, hupd_other aF.symm]; exact hF
    have hpl : pre.length < 64 := by
      have := congrArg List.length e
      rw [List.length_append, List.length_cons] at this
      omega
    have hs := sum_le2 h2
    have wl := widen_len (z := ((0, 1) : Nat × Nat)) hk
    (with_reducible conv => whnf); repeat ((first | refine ite_t rfl ?_ | refine ite_f rfl ?_ | rw [atI_0] | rw [atI_1] | refine call_1_0 ?_ | refine call_2_0 ?_ | refine call_3_0 ?_ | refine call_4_0 ?_ | refine call_5_0 ?_ | refine call_6_0 ?_ | refine call_7_0 ?_ | refine call_8_0 ?_ | refine call_9_0 ?_ | refine call_10_0 ?_ | refine call_11_0 ?_ | refine call_12_0 ?_ | refine call_13_0 ?_ | refine call_14_0 ?_ | refine call_0_0 ?_ | refine call_11_1 ?_ | refine call_11_2 ?_); (with_reducible conv => whnf))
    rw [hupd_same]
    (with_reducible conv => whnf); repeat ((first | refine ite_t rfl ?_ | refine ite_f rfl ?_ | rw [atI_0] | rw [atI_1] | refine call_1_0 ?_ | refine call_2_0 ?_ | refine call_3_0 ?_ | refine call_4_0 ?_ | refine call_5_0 ?_ | refine call_6_0 ?_ | refine call_7_0 ?_ | refine call_8_0 ?_ | refine call_9_0 ?_ | refine call_10_0 ?_ | refine call_11_0 ?_ | refine call_12_0 ?_ | refine call_13_0 ?_ | refine call_14_0 ?_ | refine call_0_0 ?_ | refine call_11_1 ?_ | refine call_11_2 ?_); (with_reducible conv => whnf))
    rw [hdel_hupd x1]
    refine ⟨(by decide : 2 ≤ sizeLine), (by decide : 1 ≤ sizeLine), ?_⟩
    (with_reducible conv => whnf); repeat ((first | refine ite_t rfl ?_ | refine ite_f rfl ?_ | rw [atI_0] | rw [atI_1] | refine call_1_0 ?_ | refine call_2_0 ?_ | refine call_3_0 ?_ | refine call_4_0 ?_ | refine call_5_0 ?_ | refine call_6_0 ?_ | refine call_7_0 ?_ | refine call_8_0 ?_ | refine call_9_0 ?_ | refine call_10_0 ?_ | refine call_11_0 ?_ | refine call_12_0 ?_ | refine call_13_0 ?_ | refine call_14_0 ?_ | refine call_0_0 ?_ | refine call_11_1 ?_ | refine call_11_2 ?_); (with_reducible conv => whnf))
    refine ⟨a, m, 3, rfl, by rw [hupd_other aL, hupd_same], by decide, by decide, fun d n' hd => ?_⟩
    rw [hupd_comm aL.symm, hupd_hupd]
    (with_reducible conv => whnf); repeat ((first | refine ite_t rfl ?_ | refine ite_f rfl ?_ | rw [atI_0] | rw [atI_1] | refine call_1_0 ?_ | refine call_2_0 ?_ | refine call_3_0 ?_ | refine call_4_0 ?_ | refine call_5_0 ?_ | refine call_6_0 ?_ | refine call_7_0 ?_ | refine call_8_0 ?_ | refine call_9_0 ?_ | refine call_10_0 ?_ | refine call_11_0 ?_ | refine call_12_0 ?_ | refine call_13_0 ?_ | refine call_14_0 ?_ | refine call_0_0 ?_ | refine call_11_1 ?_ | refine call_11_2 ?_); (with_reducible conv => whnf))
    refine ⟨by omega, by omega, ?_⟩
    rw [Int.toNat_natCast, rep_flat]
    refine ⟨by rw [List.length_map, List.length_replicate]; exact len_ok (by omega), ?_⟩
    (with_reducible conv => whnf); repeat ((first | refine ite_t rfl ?_ | refine ite_f rfl ?_ | rw [atI_0] | rw [atI_1] | refine call_1_0 ?_ | refine call_2_0 ?_ | refine call_3_0 ?_ | refine call_4_0 ?_ | refine call_5_0 ?_ | refine call_6_0 ?_ | refine call_7_0 ?_ | refine call_8_0 ?_ | refine call_9_0 ?_ | refine call_10_0 ?_ | refine call_11_0 ?_ | refine call_12_0 ?_ | refine call_13_0 ?_ | refine call_14_0 ?_ | refine call_0_0 ?_ | refine call_11_1 ?_ | refine call_11_2 ?_); (with_reducible conv => whnf))
    refine ⟨by rw [List.length_map, List.length_map, List.length_replicate, wl]; exact Nat.le_trans (by omega : _ ≤ 1000) (by decide), fun F2 hF2 => ?_⟩
    have F2L : F2 ≠ L := fun z => by rw [z, hupd_same] at hF2; cases hF2
    rw [hupd_other F2L] at hF2
    have F2a : F2 ≠ a := fun z => by rw [z, hupd_same] at hF2; cases hF2
    rw [hupd_other F2a] at hF2
    (with_reducible conv => whnf); repeat ((first | refine ite_t rfl ?_ | refine ite_f rfl ?_ | rw [atI_0] | rw [atI_1] | refine call_1_0 ?_ | refine call_2_0 ?_ | refine call_3_0 ?_ | refine call_4_0 ?_ | refine call_5_0 ?_ | refine call_6_0 ?_ | refine call_7_0 ?_ | refine call_8_0 ?_ | refine call_9_0 ?_ | refine call_10_0 ?_ | refine call_11_0 ?_ | refine call_12_0 ?_ | refine call_13_0 ?_ | refine call_14_0 ?_ | refine call_0_0 ?_ | refine call_11_1 ?_ | refine call_11_2 ?_); (with_reducible conv => whnf))
    refine ⟨⟨_, seqL_ref (by rw [hupd_other F2L.symm, hupd_same])⟩, ?_⟩
    (with_reducible conv => whnf); repeat ((first | refine ite_t rfl ?_ | refine ite_f rfl ?_ | rw [atI_0] | rw [atI_1] | refine call_1_0 ?_ | refine call_2_0 ?_ | refine call_3_0 ?_ | refine call_4_0 ?_ | refine call_5_0 ?_ | refine call_6_0 ?_ | refine call_7_0 ?_ | refine call_8_0 ?_ | refine call_9_0 ?_ | refine call_10_0 ?_ | refine call_11_0 ?_ | refine call_12_0 ?_ | refine call_13_0 ?_ | refine call_14_0 ?_ | refine call_0_0 ?_ | refine call_11_1 ?_ | refine call_11_2 ?_); (with_reducible conv => whnf))
    rw [seqA_ref hupd_same]
    (with_reducible conv => whnf); repeat ((first | refine ite_t rfl ?_ | refine ite_f rfl ?_ | rw [atI_0] | rw [atI_1] | refine call_1_0 ?_ | refine call_2_0 ?_ | refine call_3_0 ?_ | refine call_4_0 ?_ | refine call_5_0 ?_ | refine call_6_0 ?_ | refine call_7_0 ?_ | refine call_8_0 ?_ | refine call_9_0 ?_ | refine call_10_0 ?_ | refine call_11_0 ?_ | refine call_12_0 ?_ | refine call_13_0 ?_ | refine call_14_0 ?_ | refine call_0_0 ?_ | refine call_11_1 ?_ | refine call_11_2 ?_); (with_reducible conv => whnf))
    rw [hupd_other F2L.symm, hupd_same]
    (with_reducible conv => whnf); repeat ((first | refine ite_t rfl ?_ | refine ite_f rfl ?_ | rw [atI_0] | rw [atI_1] | refine call_1_0 ?_ | refine call_2_0 ?_ | refine call_3_0 ?_ | refine call_4_0 ?_ | refine call_5_0 ?_ | refine call_6_0 ?_ | refine call_7_0 ?_ | refine call_8_0 ?_ | refine call_9_0 ?_ | refine call_10_0 ?_ | refine call_11_0 ?_ | refine call_12_0 ?_ | refine call_13_0 ?_ | refine call_14_0 ?_ | refine call_0_0 ?_ | refine call_11_1 ?_ | refine call_11_2 ?_); (with_reducible conv => whnf))
    have pll : ∀ (ks : List Nat) o, (places o ks).length = ks.length := by
      intro ks
      induction ks with
      | nil => intro o; rfl
      | cons k r ih => intro o; unfold places; rw [List.length_cons, List.length_cons, ih]
    refine ⟨by rw [List.length_map, pll]; exact Nat.lt_of_lt_of_le (by omega : ks.length < 64) (by decide), ?_⟩
    (with_reducible conv => whnf); repeat ((first | refine ite_t rfl ?_ | refine ite_f rfl ?_ | rw [atI_0] | rw [atI_1] | refine call_1_0 ?_ | refine call_2_0 ?_ | refine call_3_0 ?_ | refine call_4_0 ?_ | refine call_5_0 ?_ | refine call_6_0 ?_ | refine call_7_0 ?_ | refine call_8_0 ?_ | refine call_9_0 ?_ | refine call_10_0 ?_ | refine call_11_0 ?_ | refine call_12_0 ?_ | refine call_13_0 ?_ | refine call_14_0 ?_ | refine call_0_0 ?_ | refine call_11_1 ?_ | refine call_11_2 ?_); (with_reducible conv => whnf))
    rw [hupd_comm F2L, hupd_hupd]
    refine ⟨⟨_, seqL_ref hupd_same⟩, ?_⟩
    (with_reducible conv => whnf); repeat ((first | refine ite_t rfl ?_ | refine ite_f rfl ?_ | rw [atI_0] | rw [atI_1] | refine call_1_0 ?_ | refine call_2_0 ?_ | refine call_3_0 ?_ | refine call_4_0 ?_ | refine call_5_0 ?_ | refine call_6_0 ?_ | refine call_7_0 ?_ | refine call_8_0 ?_ | refine call_9_0 ?_ | refine call_10_0 ?_ | refine call_11_0 ?_ | refine call_12_0 ?_ | refine call_13_0 ?_ | refine call_14_0 ?_ | refine call_0_0 ?_ | refine call_11_1 ?_ | refine call_11_2 ?_); (with_reducible conv => whnf))
    rw [hupd_same]
    (with_reducible conv => whnf); repeat ((first | refine ite_t rfl ?_ | refine ite_f rfl ?_ | rw [atI_0] | rw [atI_1] | refine call_1_0 ?_ | refine call_2_0 ?_ | refine call_3_0 ?_ | refine call_4_0 ?_ | refine call_5_0 ?_ | refine call_6_0 ?_ | refine call_7_0 ?_ | refine call_8_0 ?_ | refine call_9_0 ?_ | refine call_10_0 ?_ | refine call_11_0 ?_ | refine call_12_0 ?_ | refine call_13_0 ?_ | refine call_14_0 ?_ | refine call_0_0 ?_ | refine call_11_1 ?_ | refine call_11_2 ?_); (with_reducible conv => whnf))
    refine ⟨by rw [List.length_append, List.length_map, List.length_map, List.length_replicate, wl]; exact Nat.lt_of_lt_of_le (by omega : _ < 1000) (by decide), ?_⟩
    (with_reducible conv => whnf); repeat ((first | refine ite_t rfl ?_ | refine ite_f rfl ?_ | rw [atI_0] | rw [atI_1] | refine call_1_0 ?_ | refine call_2_0 ?_ | refine call_3_0 ?_ | refine call_4_0 ?_ | refine call_5_0 ?_ | refine call_6_0 ?_ | refine call_7_0 ?_ | refine call_8_0 ?_ | refine call_9_0 ?_ | refine call_10_0 ?_ | refine call_11_0 ?_ | refine call_12_0 ?_ | refine call_13_0 ?_ | refine call_14_0 ?_ | refine call_0_0 ?_ | refine call_11_1 ?_ | refine call_11_2 ?_); (with_reducible conv => whnf))
    rw [hupd_hupd]
    refine hK _ _ ⟨ks ++ [d], n', F2, _, rfl, hF2, F2L, by simp [hk], fun k hk' => ?_, ?_⟩
    · rcases List.mem_append.mp hk' with q | q
      · exact h2 k q
      · rw [List.mem_singleton.mp q]; omega
    · rw [widen_app hk, places_app]
      simp only [List.map_append, List.map_cons, List.map_nil, List.append_assoc, List.length_append, List.length_map, List.length_replicate, wl]
      congr 3
      have : ks.sum + pre.length + d = 0 + ks.sum + ks.length + d := by omega
      rw [this]
  · rw [hupd_comm LF.symm, hupd_id ha]
    rfl
theorem deq_tup {is js : List Nat} {h : Hd} {Q : Bool → Prop} (e : is = js) (q : Q true) : eqQ (.tup (is.map nD)) (.tup (js.map nD)) h Q := by
  subst e
  have := eqQ_tupI (is := is.map Int.ofNat) (js := is.map Int.ofNat) (h := h) (Q := Q) (by rw [decide_eq_true rfl]; exact q)
  rw [List.map_map] at this
  exact this
theorem deq_lst {is js : List Nat} {h : Hd} {Q : Bool → Prop} (e : is = js) (q : Q true) : eqQ (.lst (is.map nD)) (.lst (js.map nD)) h Q := by
  subst e
  have := eqQ_lstI (is := is.map Int.ofNat) (js := is.map Int.ofNat) (h := h) (Q := Q) (by rw [decide_eq_true rfl]; exact q)
  rw [List.map_map] at this
  exact this
end K03
namespace K03
open Y
open PySem (sizeLine)
open L2 (atI ixN)
theorem atI_nat {α : Type} {xs : List α} {i : Nat} {x : α} (h : xs[i]? = some x) : atI xs (i : Int) = some x := by
  have hi : i < xs.length := (List.getElem?_eq_some_iff.mp h).1
  unfold atI ixN
  rw [if_pos (by omega), if_pos (by omega)]
  simpa using h
theorem flat_nD : ∀ ns : List Nat, (ns.map nD).all flatD = true
  | [] => rfl
  | n :: ns => by rw [List.map_cons, List.all_cons, flat_nD ns]; rfl
theorem inD_nD (i : Nat) (ns : List Nat) : inD (.int (0 + (i : Int) * 1)) (ns.map nD) = decide (i ∈ ns) := by
  have e : ns.map nD = (ns.map Int.ofNat).map D.int := by rw [List.map_map]; rfl
  rw [e, inD_ints]
  have : (0 + (i : Int) * 1) = Int.ofNat i := by rw [Int.mul_one, Int.zero_add]; rfl
  rw [this]
  by_cases h : i ∈ ns
  · rw [decide_eq_true h, decide_eq_true (List.mem_map_of_mem h)]
  · rw [decide_eq_false h, decide_eq_false]
    intro z
    obtain ⟨j, hj, ej⟩ := List.mem_map.mp z
    have : j = i := by injection ej
    exact h (this ▸ hj)
theorem zip_nD (a b : List Nat) : zipD (a.map nD) (b.map nD) = (a.zip b).map fun p => .tup [nD p.1, nD p.2] := by
  unfold zipD
  rw [List.zip_map, List.map_map]
  rfl
def sg (p : Nat × Nat) : Int := (if decide ((p.2 : Int) < p.1) = true then 1 else 0) - (if decide ((p.1 : Int) < p.2) = true then 1 else 0)
theorem sg_eq {p : Nat × Nat} (h : p.1 ≤ p.2 + 1 ∧ p.2 ≤ p.1 + 1) : sg p = (p.1 : Int) - p.2 := by
  unfold sg
  by_cases c1 : (p.2 : Int) < p.1 <;> by_cases c2 : (p.1 : Int) < p.2 <;> simp [c1, c2] <;> omega
theorem sg_sum : ∀ {a b : List Nat}, a.length = b.length → (∀ p ∈ a.zip b, p.1 ≤ p.2 + 1 ∧ p.2 ≤ p.1 + 1) → ((a.zip b).map sg).sum = (a.sum : Int) - b.sum
  | [], [], _, _ => rfl
  | [], _ :: _, e, _ => by cases e
  | _ :: _, [], e, _ => by cases e
  | x :: a, y :: b, e, h => by
    have ih := sg_sum (a := a) (b := b) (by simpa using e) fun p hp => h p (by rw [List.zip_cons_cons]; exact List.mem_cons_of_mem _ hp)
    have e0 := sg_eq (h (x, y) (by rw [List.zip_cons_cons]; exact List.mem_cons_self))
    rw [List.zip_cons_cons, List.map_cons, List.sum_cons, ih, e0, List.sum_cons, List.sum_cons]
    push_cast
    omega
theorem intsOf_sg (l : List (Nat × Nat)) : intsOf (l.map fun p => D.int (sg p)) = some (l.map sg) := by
  rw [show (l.map fun p => D.int (sg p)) = (l.map sg).map D.int from by rw [List.map_map]; rfl, intsOf_map]
theorem valid_scaled {ps : List (Nat × Nat)} (hv : Valid ps) (hb : ∀ p ∈ ps, p.1 ≤ 10 ^ 6 ∧ p.2 ≤ 10 ^ 6) {a b : Nat} (h1 : a ≤ 40) (h2 : b ≤ 40) (a0 : 0 < a) (b0 : 0 < b) : Valid (ps.map fun p => low (p.1 * a, p.2 * b)) := by
  obtain ⟨⟨v1, v2⟩, v3, v4⟩ := hv
  refine ⟨⟨by simpa using v1, by simpa using v2⟩, fun q hq => ?_, ?_⟩
  · obtain ⟨p, hp, rfl⟩ := List.mem_map.mp hq
    obtain ⟨b1, b2⟩ := hb p hp
    obtain ⟨z1, z2, z3, z4, z5, z6⟩ := low_ok (p := (p.1 * a, p.2 * b)) (Nat.mul_pos (v3 p hp).1 b0)
    have z4 : (low (p.1 * a, p.2 * b)).1 ≤ p.1 * a := z4
    have z5 : (low (p.1 * a, p.2 * b)).2 ≤ p.2 * b := z5
    have m1 : p.1 * a ≤ 10 ^ 6 * 40 := Nat.mul_le_mul b1 h1
    have m2 : p.2 * b ≤ 10 ^ 6 * 40 := Nat.mul_le_mul b2 h2
    exact ⟨z1, z2, by omega, by omega⟩
  · obtain ⟨p, hp, z⟩ := v4
    exact ⟨_, List.mem_map_of_mem hp, (low_ok (p := (p.1 * a, p.2 * b)) (Nat.mul_pos (v3 p hp).1 b0)).2.2.2.2.2 (Nat.mul_pos z a0)⟩
theorem split_scaled {A : Nat} {ps : List (Nat × Nat)} (hv : Valid ps) {a b : Nat} (a0 : 0 < a) (b0 : 0 < b) : splitBy A (ps.map fun p => low (p.1 * a, p.2 * b)) = splitBy A ps := by
  obtain ⟨_, v3, v4⟩ := hv
  have := split_prop (A := A) (l := ps) (fun p => p) (fun p => low (p.1 * a, p.2 * b)) a b a0 b0 (fun p hp => (v3 p hp).1) (fun p hp => (low_ok (p := (p.1 * a, p.2 * b)) (Nat.mul_pos (v3 p hp).1 b0)).1) v4 (fun p hp => (low_ok (p := (p.1 * a, p.2 * b)) (Nat.mul_pos (v3 p hp).1 b0)).2.2.1)
  rw [List.map_id'] at this
  exact this
theorem valid_widen {ps : List (Nat × Nat)} (hv : Valid ps) (hl : ps.length ≤ 10) {ks : List Nat} (hk : ks.length = ps.length) (h2 : ∀ k ∈ ks, k ≤ 2) : Valid (widen (0, 1) ks ps) := by
  obtain ⟨⟨v1, v2⟩, v3, v4⟩ := hv
  have hs := sum_le2 h2
  have wl := widen_len (z := ((0, 1) : Nat × Nat)) hk
  have sub : ∀ {ks : List Nat} {ps : List (Nat × Nat)} (p), p ∈ widen (0, 1) ks ps → p = (0, 1) ∨ p ∈ ps := by
    intro ks
    induction ks with
    | nil => intro ps p hp; cases ps <;> simp [widen] at hp
    | cons k r ih =>
      intro ps p hp
      cases ps with
      | nil => simp [widen] at hp
      | cons q qs =>
        unfold widen at hp
        rcases List.mem_append.mp hp with z | z
        · exact .inl (List.mem_replicate.mp z).2
        · rcases List.mem_cons.mp z with z | z
          · exact .inr (by rw [z]; exact List.mem_cons_self)
          · exact (ih p z).imp id (List.mem_cons_of_mem _)
  refine ⟨⟨by omega, by omega⟩, fun p hp => ?_, ?_⟩
  · rcases sub p hp with z | z
    · subst z; exact ⟨by decide, by decide, by decide, by decide⟩
    · exact v3 p z
  · obtain ⟨p, hp, z⟩ := v4
    exact ⟨p, widen_mem hk p hp, z⟩
theorem valid_rev {ps : List (Nat × Nat)} (hv : Valid ps) : Valid ps.reverse := by
  obtain ⟨⟨v1, v2⟩, v3, v4⟩ := hv
  exact ⟨⟨by simpa using v1, by simpa using v2⟩, fun p hp => v3 p (List.mem_reverse.mp hp), by obtain ⟨p, hp, z⟩ := v4; exact ⟨p, List.mem_reverse.mpr hp, z⟩⟩
theorem split_len {A : Nat} {ps : List (Nat × Nat)} : (splitBy A ps).length = ps.length := by unfold splitBy tops; rw [partsBy_len, List.length_map]
theorem split_sum {A : Nat} {ps : List (Nat × Nat)} (hv : Valid ps) : (splitBy A ps).sum = A := partsBy_sum (tops_sum (fun p hp => (hv.2.1 p hp).1) hv.2.2)
theorem w_right : Meets G N__law_right 3 b__law_right S_right := by
  rintro ds h Q Xd - ⟨a, n, A, ps, rfl, ha, hA, hv, hl, hb, hQ⟩
  have hv' := hv
  obtain ⟨⟨v1, v2⟩, v3, v4⟩ := hv'
  have hp : ∀ p ∈ ps, 0 < p.2 := fun p hp => (v3 p hp).1
  have hsum : (splitBy A ps).sum = A := split_sum hv
  (with_reducible conv => whnf); repeat ((first | refine ite_t rfl ?_ | refine ite_f rfl ?_ | rw [atI_0] | rw [atI_1] | refine call_1_0 ?_ | refine call_2_0 ?_ | refine call_3_0 ?_ | refine call_4_0 ?_ | refine call_5_0 ?_ | refine call_6_0 ?_ | refine call_7_0 ?_ | refine call_8_0 ?_ | refine call_9_0 ?_ | refine call_10_0 ?_ | refine call_11_0 ?_ | refine call_12_0 ?_ | refine call_13_0 ?_ | refine call_14_0 ?_ | refine call_0_0 ?_ | refine call_11_1 ?_ | refine call_11_2 ?_); (with_reducible conv => whnf))
  refine ⟨A, ps, rfl, hA, hv, ?_⟩
  (with_reducible conv => whnf); repeat ((first | refine ite_t rfl ?_ | refine ite_f rfl ?_ | rw [atI_0] | rw [atI_1] | refine call_1_0 ?_ | refine call_2_0 ?_ | refine call_3_0 ?_ | refine call_4_0 ?_ | refine call_5_0 ?_ | refine call_6_0 ?_ | refine call_7_0 ?_ | refine call_8_0 ?_ | refine call_9_0 ?_ | refine call_10_0 ?_ | refine call_11_0 ?_ | refine call_12_0 ?_ | refine call_13_0 ?_ | refine call_14_0 ?_ | refine call_0_0 ?_ | refine call_11_1 ?_ | refine call_11_2 ?_); (with_reducible conv => whnf))
  rw [sum_nD]
  (with_reducible conv => whnf); repeat ((first | refine ite_t rfl ?_ | refine ite_f rfl ?_ | rw [atI_0] | rw [atI_1] | refine call_1_0 ?_ | refine call_2_0 ?_ | refine call_3_0 ?_ | refine call_4_0 ?_ | refine call_5_0 ?_ | refine call_6_0 ?_ | refine call_7_0 ?_ | refine call_8_0 ?_ | refine call_9_0 ?_ | refine call_10_0 ?_ | refine call_11_0 ?_ | refine call_12_0 ?_ | refine call_13_0 ?_ | refine call_14_0 ?_ | refine call_0_0 ?_ | refine call_11_1 ?_ | refine call_11_2 ?_); (with_reducible conv => whnf))
  rw [sum_cast, hsum]
  refine ite_f (by simp) ?_
  (with_reducible conv => whnf); repeat ((first | refine ite_t rfl ?_ | refine ite_f rfl ?_ | rw [atI_0] | rw [atI_1] | refine call_1_0 ?_ | refine call_2_0 ?_ | refine call_3_0 ?_ | refine call_4_0 ?_ | refine call_5_0 ?_ | refine call_6_0 ?_ | refine call_7_0 ?_ | refine call_8_0 ?_ | refine call_9_0 ?_ | refine call_10_0 ?_ | refine call_11_0 ?_ | refine call_12_0 ?_ | refine call_13_0 ?_ | refine call_14_0 ?_ | refine call_0_0 ?_ | refine call_11_1 ?_ | refine call_11_2 ?_); (with_reducible conv => whnf))
  refine ⟨A, ps, rfl, hA, hv, ?_⟩
  (with_reducible conv => whnf); repeat ((first | refine ite_t rfl ?_ | refine ite_f rfl ?_ | rw [atI_0] | rw [atI_1] | refine call_1_0 ?_ | refine call_2_0 ?_ | refine call_3_0 ?_ | refine call_4_0 ?_ | refine call_5_0 ?_ | refine call_6_0 ?_ | refine call_7_0 ?_ | refine call_8_0 ?_ | refine call_9_0 ?_ | refine call_10_0 ?_ | refine call_11_0 ?_ | refine call_12_0 ?_ | refine call_13_0 ?_ | refine call_14_0 ?_ | refine call_0_0 ?_ | refine call_11_1 ?_ | refine call_11_2 ?_); (with_reducible conv => whnf))
  refine deq_tup rfl ?_
  (with_reducible conv => whnf); repeat ((first | refine ite_t rfl ?_ | refine ite_f rfl ?_ | rw [atI_0] | rw [atI_1] | refine call_1_0 ?_ | refine call_2_0 ?_ | refine call_3_0 ?_ | refine call_4_0 ?_ | refine call_5_0 ?_ | refine call_6_0 ?_ | refine call_7_0 ?_ | refine call_8_0 ?_ | refine call_9_0 ?_ | refine call_10_0 ?_ | refine call_11_0 ?_ | refine call_12_0 ?_ | refine call_13_0 ?_ | refine call_14_0 ?_ | refine call_0_0 ?_ | refine call_11_1 ?_ | refine call_11_2 ?_); (with_reducible conv => whnf))
  refine ⟨a, n, 40, rfl, ha, by decide, by decide, fun d1 n1 h1 => ?_⟩
  (with_reducible conv => whnf); repeat ((first | refine ite_t rfl ?_ | refine ite_f rfl ?_ | rw [atI_0] | rw [atI_1] | refine call_1_0 ?_ | refine call_2_0 ?_ | refine call_3_0 ?_ | refine call_4_0 ?_ | refine call_5_0 ?_ | refine call_6_0 ?_ | refine call_7_0 ?_ | refine call_8_0 ?_ | refine call_9_0 ?_ | refine call_10_0 ?_ | refine call_11_0 ?_ | refine call_12_0 ?_ | refine call_13_0 ?_ | refine call_14_0 ?_ | refine call_0_0 ?_ | refine call_11_1 ?_ | refine call_11_2 ?_); (with_reducible conv => whnf))
  refine ⟨a, n1, 40, rfl, hupd_same, by decide, by decide, fun d2 n2 h2 => ?_⟩
  (with_reducible conv => whnf); repeat ((first | refine ite_t rfl ?_ | refine ite_f rfl ?_ | rw [atI_0] | rw [atI_1] | refine call_1_0 ?_ | refine call_2_0 ?_ | refine call_3_0 ?_ | refine call_4_0 ?_ | refine call_5_0 ?_ | refine call_6_0 ?_ | refine call_7_0 ?_ | refine call_8_0 ?_ | refine call_9_0 ?_ | refine call_10_0 ?_ | refine call_11_0 ?_ | refine call_12_0 ?_ | refine call_13_0 ?_ | refine call_14_0 ?_ | refine call_0_0 ?_ | refine call_11_1 ?_ | refine call_11_2 ?_); (with_reducible conv => whnf))
  rw [hupd_hupd]
  refine ⟨(by decide : 2 ≤ sizeLine), rfl, ?_⟩
  (with_reducible conv => whnf); repeat ((first | refine ite_t rfl ?_ | refine ite_f rfl ?_ | rw [atI_0] | rw [atI_1] | refine call_1_0 ?_ | refine call_2_0 ?_ | refine call_3_0 ?_ | refine call_4_0 ?_ | refine call_5_0 ?_ | refine call_6_0 ?_ | refine call_7_0 ?_ | refine call_8_0 ?_ | refine call_9_0 ?_ | refine call_10_0 ?_ | refine call_11_0 ?_ | refine call_12_0 ?_ | refine call_13_0 ?_ | refine call_14_0 ?_ | refine call_0_0 ?_ | refine call_11_1 ?_ | refine call_11_2 ?_); (with_reducible conv => whnf))
  intro F hF
  refine loopC_map (fun p => shD (low (p.1 * (1 + d1), p.2 * (1 + d2)))) (len_ok v2) (fun p hpp K k => ?_) ?_
  · obtain ⟨b1, b2⟩ := hb p hpp
    (with_reducible conv => whnf); repeat ((first | refine ite_t rfl ?_ | refine ite_f rfl ?_ | rw [atI_0] | rw [atI_1] | refine call_1_0 ?_ | refine call_2_0 ?_ | refine call_3_0 ?_ | refine call_4_0 ?_ | refine call_5_0 ?_ | refine call_6_0 ?_ | refine call_7_0 ?_ | refine call_8_0 ?_ | refine call_9_0 ?_ | refine call_10_0 ?_ | refine call_11_0 ?_ | refine call_12_0 ?_ | refine call_13_0 ?_ | refine call_14_0 ?_ | refine call_0_0 ?_ | refine call_11_1 ?_ | refine call_11_2 ?_); (with_reducible conv => whnf))
    refine ⟨rfl, ?_⟩
    (with_reducible conv => whnf); repeat ((first | refine ite_t rfl ?_ | refine ite_f rfl ?_ | rw [atI_0] | rw [atI_1] | refine call_1_0 ?_ | refine call_2_0 ?_ | refine call_3_0 ?_ | refine call_4_0 ?_ | refine call_5_0 ?_ | refine call_6_0 ?_ | refine call_7_0 ?_ | refine call_8_0 ?_ | refine call_9_0 ?_ | refine call_10_0 ?_ | refine call_11_0 ?_ | refine call_12_0 ?_ | refine call_13_0 ?_ | refine call_14_0 ?_ | refine call_0_0 ?_ | refine call_11_1 ?_ | refine call_11_2 ?_); (with_reducible conv => whnf))
    refine ⟨mulL64 (by omega) (by omega), ?_⟩
    (with_reducible conv => whnf); repeat ((first | refine ite_t rfl ?_ | refine ite_f rfl ?_ | rw [atI_0] | rw [atI_1] | refine call_1_0 ?_ | refine call_2_0 ?_ | refine call_3_0 ?_ | refine call_4_0 ?_ | refine call_5_0 ?_ | refine call_6_0 ?_ | refine call_7_0 ?_ | refine call_8_0 ?_ | refine call_9_0 ?_ | refine call_10_0 ?_ | refine call_11_0 ?_ | refine call_12_0 ?_ | refine call_13_0 ?_ | refine call_14_0 ?_ | refine call_0_0 ?_ | refine call_11_1 ?_ | refine call_11_2 ?_); (with_reducible conv => whnf))
    refine ⟨mulL64 (by omega) (by omega), ?_⟩
    (with_reducible conv => whnf); repeat ((first | refine ite_t rfl ?_ | refine ite_f rfl ?_ | rw [atI_0] | rw [atI_1] | refine call_1_0 ?_ | refine call_2_0 ?_ | refine call_3_0 ?_ | refine call_4_0 ?_ | refine call_5_0 ?_ | refine call_6_0 ?_ | refine call_7_0 ?_ | refine call_8_0 ?_ | refine call_9_0 ?_ | refine call_10_0 ?_ | refine call_11_0 ?_ | refine call_12_0 ?_ | refine call_13_0 ?_ | refine call_14_0 ?_ | refine call_0_0 ?_ | refine call_11_1 ?_ | refine call_11_2 ?_); (with_reducible conv => whnf))
    have m2 : p.2 * (1 + d2) ≤ 10 ^ 6 * 40 := Nat.mul_le_mul b2 (by omega)
    exact ⟨(p.1 * (1 + d1), p.2 * (1 + d2)), rfl, Nat.mul_pos (hp p hpp) (by omega), by show p.2 * (1 + d2) < 2 ^ 64; omega, k⟩
  (with_reducible conv => whnf); repeat ((first | refine ite_t rfl ?_ | refine ite_f rfl ?_ | rw [atI_0] | rw [atI_1] | refine call_1_0 ?_ | refine call_2_0 ?_ | refine call_3_0 ?_ | refine call_4_0 ?_ | refine call_5_0 ?_ | refine call_6_0 ?_ | refine call_7_0 ?_ | refine call_8_0 ?_ | refine call_9_0 ?_ | refine call_10_0 ?_ | refine call_11_0 ?_ | refine call_12_0 ?_ | refine call_13_0 ?_ | refine call_14_0 ?_ | refine call_0_0 ?_ | refine call_11_1 ?_ | refine call_11_2 ?_); (with_reducible conv => whnf))
  rw [hdel_hupd hF]
  have es : (ps.map fun p => shD (low (p.1 * (1 + d1), p.2 * (1 + d2)))) = (ps.map fun p => low (p.1 * (1 + d1), p.2 * (1 + d2))).map shD := by rw [List.map_map]; rfl
  rw [es]
  refine ⟨A, _, rfl, hA, valid_scaled hv hb (by omega) (by omega) (by omega) (by omega), ?_⟩
  rw [split_scaled hv (by omega) (by omega)]
  (with_reducible conv => whnf); repeat ((first | refine ite_t rfl ?_ | refine ite_f rfl ?_ | rw [atI_0] | rw [atI_1] | refine call_1_0 ?_ | refine call_2_0 ?_ | refine call_3_0 ?_ | refine call_4_0 ?_ | refine call_5_0 ?_ | refine call_6_0 ?_ | refine call_7_0 ?_ | refine call_8_0 ?_ | refine call_9_0 ?_ | refine call_10_0 ?_ | refine call_11_0 ?_ | refine call_12_0 ?_ | refine call_13_0 ?_ | refine call_14_0 ?_ | refine call_0_0 ?_ | refine call_11_1 ?_ | refine call_11_2 ?_); (with_reducible conv => whnf))
  refine deq_tup rfl ?_
  (with_reducible conv => whnf); repeat ((first | refine ite_t rfl ?_ | refine ite_f rfl ?_ | rw [atI_0] | rw [atI_1] | refine call_1_0 ?_ | refine call_2_0 ?_ | refine call_3_0 ?_ | refine call_4_0 ?_ | refine call_5_0 ?_ | refine call_6_0 ?_ | refine call_7_0 ?_ | refine call_8_0 ?_ | refine call_9_0 ?_ | refine call_10_0 ?_ | refine call_11_0 ?_ | refine call_12_0 ?_ | refine call_13_0 ?_ | refine call_14_0 ?_ | refine call_0_0 ?_ | refine call_11_1 ?_ | refine call_11_2 ?_); (with_reducible conv => whnf))
  refine ⟨a, n2, ps, rfl, hupd_same, v2, fun ks n3 hk h3 => ?_⟩
  (with_reducible conv => whnf); repeat ((first | refine ite_t rfl ?_ | refine ite_f rfl ?_ | rw [atI_0] | rw [atI_1] | refine call_1_0 ?_ | refine call_2_0 ?_ | refine call_3_0 ?_ | refine call_4_0 ?_ | refine call_5_0 ?_ | refine call_6_0 ?_ | refine call_7_0 ?_ | refine call_8_0 ?_ | refine call_9_0 ?_ | refine call_10_0 ?_ | refine call_11_0 ?_ | refine call_12_0 ?_ | refine call_13_0 ?_ | refine call_14_0 ?_ | refine call_0_0 ?_ | refine call_11_1 ?_ | refine call_11_2 ?_); (with_reducible conv => whnf))
  rw [hupd_hupd]
  refine ⟨rfl, ?_⟩
  (with_reducible conv => whnf); repeat ((first | refine ite_t rfl ?_ | refine ite_f rfl ?_ | rw [atI_0] | rw [atI_1] | refine call_1_0 ?_ | refine call_2_0 ?_ | refine call_3_0 ?_ | refine call_4_0 ?_ | refine call_5_0 ?_ | refine call_6_0 ?_ | refine call_7_0 ?_ | refine call_8_0 ?_ | refine call_9_0 ?_ | refine call_10_0 ?_ | refine call_11_0 ?_ | refine call_12_0 ?_ | refine call_13_0 ?_ | refine call_14_0 ?_ | refine call_0_0 ?_ | refine call_11_1 ?_ | refine call_11_2 ?_); (with_reducible conv => whnf))
  have vw := valid_widen hv hl hk h3
  refine ⟨A, _, rfl, hA, vw, ?_⟩
  rw [split_widen ks ps hk hp v4 (widen_mem hk)]
  have hk' : ks.length = (splitBy A ps).length := by rw [split_len, hk]
  have wl := widen_len (z := (0 : Nat)) hk'
  have hs3 := sum_le2 h3
  have pg := places_get (z := (0 : Nat)) [] hk'
  have pn := places_not (z := (0 : Nat)) [] hk'
  simp only [List.length_nil, List.nil_append] at pg pn
  have hW : (widen 0 ks (splitBy A ps)).sum = A := by rw [sum_widen _ _ hk', hsum]
  have wlen : (widen 0 ks (splitBy A ps)).length = (widen ((0, 1) : Nat × Nat) ks ps).length := by rw [wl, widen_len hk, split_len]
  generalize widen 0 ks (splitBy A ps) = W at *
  have pll : ∀ (ks : List Nat) o, (places o ks).length = ks.length := by
    intro ks
    induction ks with
    | nil => intro o; rfl
    | cons k r ih => intro o; unfold places; rw [List.length_cons, List.length_cons, ih]
  (with_reducible conv => whnf); repeat ((first | refine ite_t rfl ?_ | refine ite_f rfl ?_ | rw [atI_0] | rw [atI_1] | refine call_1_0 ?_ | refine call_2_0 ?_ | refine call_3_0 ?_ | refine call_4_0 ?_ | refine call_5_0 ?_ | refine call_6_0 ?_ | refine call_7_0 ?_ | refine call_8_0 ?_ | refine call_9_0 ?_ | refine call_10_0 ?_ | refine call_11_0 ?_ | refine call_12_0 ?_ | refine call_13_0 ?_ | refine call_14_0 ?_ | refine call_0_0 ?_ | refine call_11_1 ?_ | refine call_11_2 ?_); (with_reducible conv => whnf))
  intro F2 hF2
  refine loopC_map (fun s => nD ((W[s]?).getD 0)) (len_ok (by rw [pll, hk]; exact v2)) (fun s hs K k => ?_) ?_
  · have : ∃ y, W[s]? = some y := by
      have hm : W[s]? ∈ (places 0 ks).map fun i => W[i]? := List.mem_map_of_mem hs
      rw [pg] at hm
      obtain ⟨y, _, ey⟩ := List.mem_map.mp hm
      exact ⟨y, ey.symm⟩
    obtain ⟨y, ey⟩ := this
    rw [ey] at k
    have e : (W.map nD)[s]? = some (nD y) := by rw [List.getElem?_map, ey]; rfl
    (with_reducible conv => whnf); repeat ((first | refine ite_t rfl ?_ | refine ite_f rfl ?_ | rw [atI_0] | rw [atI_1] | refine call_1_0 ?_ | refine call_2_0 ?_ | refine call_3_0 ?_ | refine call_4_0 ?_ | refine call_5_0 ?_ | refine call_6_0 ?_ | refine call_7_0 ?_ | refine call_8_0 ?_ | refine call_9_0 ?_ | refine call_10_0 ?_ | refine call_11_0 ?_ | refine call_12_0 ?_ | refine call_13_0 ?_ | refine call_14_0 ?_ | refine call_0_0 ?_ | refine call_11_1 ?_ | refine call_11_2 ?_); (with_reducible conv => whnf))
    rw [atI_nat e]
    (with_reducible conv => whnf); repeat ((first | refine ite_t rfl ?_ | refine ite_f rfl ?_ | rw [atI_0] | rw [atI_1] | refine call_1_0 ?_ | refine call_2_0 ?_ | refine call_3_0 ?_ | refine call_4_0 ?_ | refine call_5_0 ?_ | refine call_6_0 ?_ | refine call_7_0 ?_ | refine call_8_0 ?_ | refine call_9_0 ?_ | refine call_10_0 ?_ | refine call_11_0 ?_ | refine call_12_0 ?_ | refine call_13_0 ?_ | refine call_14_0 ?_ | refine call_0_0 ?_ | refine call_11_1 ?_ | refine call_11_2 ?_); (with_reducible conv => whnf))
    exact k
  (with_reducible conv => whnf); repeat ((first | refine ite_t rfl ?_ | refine ite_f rfl ?_ | rw [atI_0] | rw [atI_1] | refine call_1_0 ?_ | refine call_2_0 ?_ | refine call_3_0 ?_ | refine call_4_0 ?_ | refine call_5_0 ?_ | refine call_6_0 ?_ | refine call_7_0 ?_ | refine call_8_0 ?_ | refine call_9_0 ?_ | refine call_10_0 ?_ | refine call_11_0 ?_ | refine call_12_0 ?_ | refine call_13_0 ?_ | refine call_14_0 ?_ | refine call_0_0 ?_ | refine call_11_1 ?_ | refine call_11_2 ?_); (with_reducible conv => whnf))
  rw [hdel_hupd hF2, map_nD]
  have ep : ((places 0 ks).map fun s => (W[s]?).getD 0) = splitBy A ps := by
    have := congrArg (List.map fun o : Option Nat => o.getD 0) pg
    rw [List.map_map, List.map_map] at this
    refine this.trans ?_
    exact (List.map_congr_left (g := id) fun x _ => rfl).trans (List.map_id _)
  refine deq_lst ep ?_
  (with_reducible conv => whnf); repeat ((first | refine ite_t rfl ?_ | refine ite_f rfl ?_ | rw [atI_0] | rw [atI_1] | refine call_1_0 ?_ | refine call_2_0 ?_ | refine call_3_0 ?_ | refine call_4_0 ?_ | refine call_5_0 ?_ | refine call_6_0 ?_ | refine call_7_0 ?_ | refine call_8_0 ?_ | refine call_9_0 ?_ | refine call_10_0 ?_ | refine call_11_0 ?_ | refine call_12_0 ?_ | refine call_13_0 ?_ | refine call_14_0 ?_ | refine call_0_0 ?_ | refine call_11_1 ?_ | refine call_11_2 ?_); (with_reducible conv => whnf))
  rw [sum_nD]
  (with_reducible conv => whnf); repeat ((first | refine ite_t rfl ?_ | refine ite_f rfl ?_ | rw [atI_0] | rw [atI_1] | refine call_1_0 ?_ | refine call_2_0 ?_ | refine call_3_0 ?_ | refine call_4_0 ?_ | refine call_5_0 ?_ | refine call_6_0 ?_ | refine call_7_0 ?_ | refine call_8_0 ?_ | refine call_9_0 ?_ | refine call_10_0 ?_ | refine call_11_0 ?_ | refine call_12_0 ?_ | refine call_13_0 ?_ | refine call_14_0 ?_ | refine call_0_0 ?_ | refine call_11_1 ?_ | refine call_11_2 ?_); (with_reducible conv => whnf))
  rw [sum_cast, hW]
  refine ite_f (by simp) ?_
  (with_reducible conv => whnf); repeat ((first | refine ite_t rfl ?_ | refine ite_f rfl ?_ | rw [atI_0] | rw [atI_1] | refine call_1_0 ?_ | refine call_2_0 ?_ | refine call_3_0 ?_ | refine call_4_0 ?_ | refine call_5_0 ?_ | refine call_6_0 ?_ | refine call_7_0 ?_ | refine call_8_0 ?_ | refine call_9_0 ?_ | refine call_10_0 ?_ | refine call_11_0 ?_ | refine call_12_0 ?_ | refine call_13_0 ?_ | refine call_14_0 ?_ | refine call_0_0 ?_ | refine call_11_1 ?_ | refine call_11_2 ?_); (with_reducible conv => whnf))
  refine ⟨by constructor <;> rw [List.length_map] <;> omega, fun F3 hF3 => ?_⟩
  rw [Int.toNat_natCast, List.length_map]
  refine loopC_filter (enc := fun i : Nat => .int (0 + (i : Int) * 1)) (l := List.range _) (fun _ => .bl false) (fun i => decide (i ∉ places 0 ks)) (by rw [List.length_range, ← wlen]; exact len_ok (by omega)) (fun i hi K Z k1 k2 => ?_) ?_
  · have hi := List.mem_range.mp hi
    (with_reducible conv => whnf); repeat ((first | refine ite_t rfl ?_ | refine ite_f rfl ?_ | rw [atI_0] | rw [atI_1] | refine call_1_0 ?_ | refine call_2_0 ?_ | refine call_3_0 ?_ | refine call_4_0 ?_ | refine call_5_0 ?_ | refine call_6_0 ?_ | refine call_7_0 ?_ | refine call_8_0 ?_ | refine call_9_0 ?_ | refine call_10_0 ?_ | refine call_11_0 ?_ | refine call_12_0 ?_ | refine call_13_0 ?_ | refine call_14_0 ?_ | refine call_0_0 ?_ | refine call_11_1 ?_ | refine call_11_2 ?_); (with_reducible conv => whnf))
    refine ⟨rfl, flat_nD _, ?_⟩
    (with_reducible conv => whnf); repeat ((first | refine ite_t rfl ?_ | refine ite_f rfl ?_ | rw [atI_0] | rw [atI_1] | refine call_1_0 ?_ | refine call_2_0 ?_ | refine call_3_0 ?_ | refine call_4_0 ?_ | refine call_5_0 ?_ | refine call_6_0 ?_ | refine call_7_0 ?_ | refine call_8_0 ?_ | refine call_9_0 ?_ | refine call_10_0 ?_ | refine call_11_0 ?_ | refine call_12_0 ?_ | refine call_13_0 ?_ | refine call_14_0 ?_ | refine call_0_0 ?_ | refine call_11_1 ?_ | refine call_11_2 ?_); (with_reducible conv => whnf))
    rw [inD_nD]
    by_cases c : i ∈ places 0 ks
    · refine ite_f (by simp [c]) ?_
      exact k2 (by simp [c])
    · refine ite_t (by simp [c]) ?_
      have hx : W[i]? = some W[i] := List.getElem?_eq_getElem (by omega)
      have z := pn i (Nat.zero_le _) c _ hx
      have e : (W.map nD)[i]? = some (nD 0) := by rw [List.getElem?_map, hx, z]; rfl
      have e0 : (0 + (i : Int) * 1) = (i : Int) := by omega
      rw [e0]
      (with_reducible conv => whnf); repeat ((first | refine ite_t rfl ?_ | refine ite_f rfl ?_ | rw [atI_0] | rw [atI_1] | refine call_1_0 ?_ | refine call_2_0 ?_ | refine call_3_0 ?_ | refine call_4_0 ?_ | refine call_5_0 ?_ | refine call_6_0 ?_ | refine call_7_0 ?_ | refine call_8_0 ?_ | refine call_9_0 ?_ | refine call_10_0 ?_ | refine call_11_0 ?_ | refine call_12_0 ?_ | refine call_13_0 ?_ | refine call_14_0 ?_ | refine call_0_0 ?_ | refine call_11_1 ?_ | refine call_11_2 ?_); (with_reducible conv => whnf))
      rw [atI_nat e]
      (with_reducible conv => whnf); repeat ((first | refine ite_t rfl ?_ | refine ite_f rfl ?_ | rw [atI_0] | rw [atI_1] | refine call_1_0 ?_ | refine call_2_0 ?_ | refine call_3_0 ?_ | refine call_4_0 ?_ | refine call_5_0 ?_ | refine call_6_0 ?_ | refine call_7_0 ?_ | refine call_8_0 ?_ | refine call_9_0 ?_ | refine call_10_0 ?_ | refine call_11_0 ?_ | refine call_12_0 ?_ | refine call_13_0 ?_ | refine call_14_0 ?_ | refine call_0_0 ?_ | refine call_11_1 ?_ | refine call_11_2 ?_); (with_reducible conv => whnf))
      exact k1 (by simp [c])
  (with_reducible conv => whnf); repeat ((first | refine ite_t rfl ?_ | refine ite_f rfl ?_ | rw [atI_0] | rw [atI_1] | refine call_1_0 ?_ | refine call_2_0 ?_ | refine call_3_0 ?_ | refine call_4_0 ?_ | refine call_5_0 ?_ | refine call_6_0 ?_ | refine call_7_0 ?_ | refine call_8_0 ?_ | refine call_9_0 ?_ | refine call_10_0 ?_ | refine call_11_0 ?_ | refine call_12_0 ?_ | refine call_13_0 ?_ | refine call_14_0 ?_ | refine call_0_0 ?_ | refine call_11_1 ?_ | refine call_11_2 ?_); (with_reducible conv => whnf))
  rw [blsOf_fun (f := fun _ => false), hdel_hupd hF3]
  (with_reducible conv => whnf); repeat ((first | refine ite_t rfl ?_ | refine ite_f rfl ?_ | rw [atI_0] | rw [atI_1] | refine call_1_0 ?_ | refine call_2_0 ?_ | refine call_3_0 ?_ | refine call_4_0 ?_ | refine call_5_0 ?_ | refine call_6_0 ?_ | refine call_7_0 ?_ | refine call_8_0 ?_ | refine call_9_0 ?_ | refine call_10_0 ?_ | refine call_11_0 ?_ | refine call_12_0 ?_ | refine call_13_0 ?_ | refine call_14_0 ?_ | refine call_0_0 ?_ | refine call_11_1 ?_ | refine call_11_2 ?_); (with_reducible conv => whnf))
  refine ite_f (by simp) ?_
  (with_reducible conv => whnf); repeat ((first | refine ite_t rfl ?_ | refine ite_f rfl ?_ | rw [atI_0] | rw [atI_1] | refine call_1_0 ?_ | refine call_2_0 ?_ | refine call_3_0 ?_ | refine call_4_0 ?_ | refine call_5_0 ?_ | refine call_6_0 ?_ | refine call_7_0 ?_ | refine call_8_0 ?_ | refine call_9_0 ?_ | refine call_10_0 ?_ | refine call_11_0 ?_ | refine call_12_0 ?_ | refine call_13_0 ?_ | refine call_14_0 ?_ | refine call_0_0 ?_ | refine call_11_1 ?_ | refine call_11_2 ?_); (with_reducible conv => whnf))
  rw [← List.map_reverse]
  refine ⟨A, ps.reverse, rfl, hA, valid_rev hv, ?_⟩
  obtain ⟨rl, rn⟩ := split_rev (A := A) hp v4
  have rs : (splitBy A ps.reverse).reverse.sum = A := by rw [List.sum_reverse]; exact split_sum (valid_rev hv)
  (with_reducible conv => whnf); repeat ((first | refine ite_t rfl ?_ | refine ite_f rfl ?_ | rw [atI_0] | rw [atI_1] | refine call_1_0 ?_ | refine call_2_0 ?_ | refine call_3_0 ?_ | refine call_4_0 ?_ | refine call_5_0 ?_ | refine call_6_0 ?_ | refine call_7_0 ?_ | refine call_8_0 ?_ | refine call_9_0 ?_ | refine call_10_0 ?_ | refine call_11_0 ?_ | refine call_12_0 ?_ | refine call_13_0 ?_ | refine call_14_0 ?_ | refine call_0_0 ?_ | refine call_11_1 ?_ | refine call_11_2 ?_); (with_reducible conv => whnf))
  rw [← List.map_reverse]
  have hsg := sg_sum rl rn
  rw [hsum, rs] at hsg
  generalize (splitBy A ps.reverse).reverse = R at *
  intro F4 hF4
  rw [zip_nD]
  have zl : ((splitBy A ps).zip R).length ≤ 64 := by
    rw [List.length_zip, split_len]; omega
  refine loopC_map (fun p => .int (sg p)) (len_ok zl) (fun p hpp K k => ?_) ?_
  · (with_reducible conv => whnf); repeat ((first | refine ite_t rfl ?_ | refine ite_f rfl ?_ | rw [atI_0] | rw [atI_1] | refine call_1_0 ?_ | refine call_2_0 ?_ | refine call_3_0 ?_ | refine call_4_0 ?_ | refine call_5_0 ?_ | refine call_6_0 ?_ | refine call_7_0 ?_ | refine call_8_0 ?_ | refine call_9_0 ?_ | refine call_10_0 ?_ | refine call_11_0 ?_ | refine call_12_0 ?_ | refine call_13_0 ?_ | refine call_14_0 ?_ | refine call_0_0 ?_ | refine call_11_1 ?_ | refine call_11_2 ?_); (with_reducible conv => whnf))
    refine ⟨rfl, ?_⟩
    (with_reducible conv => whnf); repeat ((first | refine ite_t rfl ?_ | refine ite_f rfl ?_ | rw [atI_0] | rw [atI_1] | refine call_1_0 ?_ | refine call_2_0 ?_ | refine call_3_0 ?_ | refine call_4_0 ?_ | refine call_5_0 ?_ | refine call_6_0 ?_ | refine call_7_0 ?_ | refine call_8_0 ?_ | refine call_9_0 ?_ | refine call_10_0 ?_ | refine call_11_0 ?_ | refine call_12_0 ?_ | refine call_13_0 ?_ | refine call_14_0 ?_ | refine call_0_0 ?_ | refine call_11_1 ?_ | refine call_11_2 ?_); (with_reducible conv => whnf))
    exact k
  (with_reducible conv => whnf); repeat ((first | refine ite_t rfl ?_ | refine ite_f rfl ?_ | rw [atI_0] | rw [atI_1] | refine call_1_0 ?_ | refine call_2_0 ?_ | refine call_3_0 ?_ | refine call_4_0 ?_ | refine call_5_0 ?_ | refine call_6_0 ?_ | refine call_7_0 ?_ | refine call_8_0 ?_ | refine call_9_0 ?_ | refine call_10_0 ?_ | refine call_11_0 ?_ | refine call_12_0 ?_ | refine call_13_0 ?_ | refine call_14_0 ?_ | refine call_0_0 ?_ | refine call_11_1 ?_ | refine call_11_2 ?_); (with_reducible conv => whnf))
  rw [hdel_hupd hF4, sum_nD]
  (with_reducible conv => whnf); repeat ((first | refine ite_t rfl ?_ | refine ite_f rfl ?_ | rw [atI_0] | rw [atI_1] | refine call_1_0 ?_ | refine call_2_0 ?_ | refine call_3_0 ?_ | refine call_4_0 ?_ | refine call_5_0 ?_ | refine call_6_0 ?_ | refine call_7_0 ?_ | refine call_8_0 ?_ | refine call_9_0 ?_ | refine call_10_0 ?_ | refine call_11_0 ?_ | refine call_12_0 ?_ | refine call_13_0 ?_ | refine call_14_0 ?_ | refine call_0_0 ?_ | refine call_11_1 ?_ | refine call_11_2 ?_); (with_reducible conv => whnf))
  rw [sum_cast, rs]
  refine ite_t (by simp) ?_
  (with_reducible conv => whnf); repeat ((first | refine ite_t rfl ?_ | refine ite_f rfl ?_ | rw [atI_0] | rw [atI_1] | refine call_1_0 ?_ | refine call_2_0 ?_ | refine call_3_0 ?_ | refine call_4_0 ?_ | refine call_5_0 ?_ | refine call_6_0 ?_ | refine call_7_0 ?_ | refine call_8_0 ?_ | refine call_9_0 ?_ | refine call_10_0 ?_ | refine call_11_0 ?_ | refine call_12_0 ?_ | refine call_13_0 ?_ | refine call_14_0 ?_ | refine call_0_0 ?_ | refine call_11_1 ?_ | refine call_11_2 ?_); (with_reducible conv => whnf))
  rw [intsOf_sg]
  (with_reducible conv => whnf); repeat ((first | refine ite_t rfl ?_ | refine ite_f rfl ?_ | rw [atI_0] | rw [atI_1] | refine call_1_0 ?_ | refine call_2_0 ?_ | refine call_3_0 ?_ | refine call_4_0 ?_ | refine call_5_0 ?_ | refine call_6_0 ?_ | refine call_7_0 ?_ | refine call_8_0 ?_ | refine call_9_0 ?_ | refine call_10_0 ?_ | refine call_11_0 ?_ | refine call_12_0 ?_ | refine call_13_0 ?_ | refine call_14_0 ?_ | refine call_0_0 ?_ | refine call_11_1 ?_ | refine call_11_2 ?_); (with_reducible conv => whnf))
  rw [hsg]
  refine ite_t (by simp) ?_
  (with_reducible conv => whnf); repeat ((first | refine ite_t rfl ?_ | refine ite_f rfl ?_ | rw [atI_0] | rw [atI_1] | refine call_1_0 ?_ | refine call_2_0 ?_ | refine call_3_0 ?_ | refine call_4_0 ?_ | refine call_5_0 ?_ | refine call_6_0 ?_ | refine call_7_0 ?_ | refine call_8_0 ?_ | refine call_9_0 ?_ | refine call_10_0 ?_ | refine call_11_0 ?_ | refine call_12_0 ?_ | refine call_13_0 ?_ | refine call_14_0 ?_ | refine call_0_0 ?_ | refine call_11_1 ?_ | refine call_11_2 ?_); (with_reducible conv => whnf))
  intro F5 hF5
  rw [zip_nD]
  refine loopC_map (fun _ => .bl true) (len_ok zl) (fun p hpp K k => ?_) ?_
  · obtain ⟨y1, y2⟩ := rn p hpp
    (with_reducible conv => whnf); repeat ((first | refine ite_t rfl ?_ | refine ite_f rfl ?_ | rw [atI_0] | rw [atI_1] | refine call_1_0 ?_ | refine call_2_0 ?_ | refine call_3_0 ?_ | refine call_4_0 ?_ | refine call_5_0 ?_ | refine call_6_0 ?_ | refine call_7_0 ?_ | refine call_8_0 ?_ | refine call_9_0 ?_ | refine call_10_0 ?_ | refine call_11_0 ?_ | refine call_12_0 ?_ | refine call_13_0 ?_ | refine call_14_0 ?_ | refine call_0_0 ?_ | refine call_11_1 ?_ | refine call_11_2 ?_); (with_reducible conv => whnf))
    refine ⟨rfl, ?_⟩
    (with_reducible conv => whnf); repeat ((first | refine ite_t rfl ?_ | refine ite_f rfl ?_ | rw [atI_0] | rw [atI_1] | refine call_1_0 ?_ | refine call_2_0 ?_ | refine call_3_0 ?_ | refine call_4_0 ?_ | refine call_5_0 ?_ | refine call_6_0 ?_ | refine call_7_0 ?_ | refine call_8_0 ?_ | refine call_9_0 ?_ | refine call_10_0 ?_ | refine call_11_0 ?_ | refine call_12_0 ?_ | refine call_13_0 ?_ | refine call_14_0 ?_ | refine call_0_0 ?_ | refine call_11_1 ?_ | refine call_11_2 ?_); (with_reducible conv => whnf))
    have e : decide ((if (p.1 : Int) - p.2 < 0 then -((p.1 : Int) - p.2) else (p.1 : Int) - p.2) < 2) = true := by
      apply decide_eq_true
      split <;> omega
    rw [e]
    exact k
  (with_reducible conv => whnf); repeat ((first | refine ite_t rfl ?_ | refine ite_f rfl ?_ | rw [atI_0] | rw [atI_1] | refine call_1_0 ?_ | refine call_2_0 ?_ | refine call_3_0 ?_ | refine call_4_0 ?_ | refine call_5_0 ?_ | refine call_6_0 ?_ | refine call_7_0 ?_ | refine call_8_0 ?_ | refine call_9_0 ?_ | refine call_10_0 ?_ | refine call_11_0 ?_ | refine call_12_0 ?_ | refine call_13_0 ?_ | refine call_14_0 ?_ | refine call_0_0 ?_ | refine call_11_1 ?_ | refine call_11_2 ?_); (with_reducible conv => whnf))
  rw [blsOf_fun (f := fun _ => true), hdel_hupd hF5]
  (with_reducible conv => whnf); repeat ((first | refine ite_t rfl ?_ | refine ite_f rfl ?_ | rw [atI_0] | rw [atI_1] | refine call_1_0 ?_ | refine call_2_0 ?_ | refine call_3_0 ?_ | refine call_4_0 ?_ | refine call_5_0 ?_ | refine call_6_0 ?_ | refine call_7_0 ?_ | refine call_8_0 ?_ | refine call_9_0 ?_ | refine call_10_0 ?_ | refine call_11_0 ?_ | refine call_12_0 ?_ | refine call_13_0 ?_ | refine call_14_0 ?_ | refine call_0_0 ?_ | refine call_11_1 ?_ | refine call_11_2 ?_); (with_reducible conv => whnf))
  rw [show List.all (((splitBy A ps).zip R).map fun _ => true) id = true from by simp]
  exact hQ n3
end K03
namespace K03
open Y
open PySem (sizeLine)
open L2 (atI ixN)
theorem zipWith_zip (f : Nat → Nat → Nat) : ∀ a b : List Nat, List.zipWith f a b = (a.zip b).map fun p => f p.1 p.2
  | [], _ => rfl
  | _ :: _, [] => rfl
  | x :: a, y :: b => by rw [List.zipWith_cons_cons, List.zip_cons_cons, List.map_cons, zipWith_zip f a b]
theorem valid_ones {ps : List (Nat × Nat)} (hv : Valid ps) : Valid ((ps.map (·.1)).map fun t => (t, 1)) := by
  obtain ⟨⟨v1, v2⟩, v3, v4⟩ := hv
  refine ⟨⟨by simpa using v1, by simpa using v2⟩, fun q hq => ?_, ?_⟩
  · obtain ⟨t, ht, rfl⟩ := List.mem_map.mp hq
    obtain ⟨p, hp, rfl⟩ := List.mem_map.mp ht
    exact ⟨Nat.one_pos, Nat.gcd_one_left _, (v3 p hp).2.2.1, by show 1 < 2 ^ 40; decide⟩
  · obtain ⟨p, hp, z⟩ := v4
    exact ⟨(p.1, 1), List.mem_map.mpr ⟨p.1, List.mem_map.mpr ⟨p, hp, rfl⟩, rfl⟩, z⟩
theorem split_ones {A : Nat} (ts : List Nat) : splitBy A (ts.map fun t => (t, 1)) = partsBy A ts := by unfold splitBy; rw [tops_one]
theorem w_whole : Meets G N__law_whole_right 2 b__law_whole_right S_whole := by
  rintro ds h Q Xd - ⟨a, n, ps, rfl, ha, hv, hl, hb, hQ⟩
  have hv' := hv
  obtain ⟨⟨v1, v2⟩, v3, v4⟩ := hv'
  have vo := valid_ones hv
  (with_reducible conv => whnf); repeat ((first | refine ite_t rfl ?_ | refine ite_f rfl ?_ | rw [atI_0] | rw [atI_1] | refine call_1_0 ?_ | refine call_2_0 ?_ | refine call_3_0 ?_ | refine call_4_0 ?_ | refine call_5_0 ?_ | refine call_6_0 ?_ | refine call_7_0 ?_ | refine call_8_0 ?_ | refine call_9_0 ?_ | refine call_10_0 ?_ | refine call_11_0 ?_ | refine call_12_0 ?_ | refine call_13_0 ?_ | refine call_14_0 ?_ | refine call_0_0 ?_ | refine call_11_1 ?_ | refine call_11_2 ?_); (with_reducible conv => whnf))
  intro F hF
  refine loopC_map (fun p => shD (p.1, 1)) (len_ok v2) (fun p hp K k => ?_) ?_
  · (with_reducible conv => whnf); repeat ((first | refine ite_t rfl ?_ | refine ite_f rfl ?_ | rw [atI_0] | rw [atI_1] | refine call_1_0 ?_ | refine call_2_0 ?_ | refine call_3_0 ?_ | refine call_4_0 ?_ | refine call_5_0 ?_ | refine call_6_0 ?_ | refine call_7_0 ?_ | refine call_8_0 ?_ | refine call_9_0 ?_ | refine call_10_0 ?_ | refine call_11_0 ?_ | refine call_12_0 ?_ | refine call_13_0 ?_ | refine call_14_0 ?_ | refine call_0_0 ?_ | refine call_11_1 ?_ | refine call_11_2 ?_); (with_reducible conv => whnf))
    refine ⟨rfl, ?_⟩
    (with_reducible conv => whnf); repeat ((first | refine ite_t rfl ?_ | refine ite_f rfl ?_ | rw [atI_0] | rw [atI_1] | refine call_1_0 ?_ | refine call_2_0 ?_ | refine call_3_0 ?_ | refine call_4_0 ?_ | refine call_5_0 ?_ | refine call_6_0 ?_ | refine call_7_0 ?_ | refine call_8_0 ?_ | refine call_9_0 ?_ | refine call_10_0 ?_ | refine call_11_0 ?_ | refine call_12_0 ?_ | refine call_13_0 ?_ | refine call_14_0 ?_ | refine call_0_0 ?_ | refine call_11_1 ?_ | refine call_11_2 ?_); (with_reducible conv => whnf))
    exact ⟨(by decide : 2 ≤ sizeLine), k⟩
  (with_reducible conv => whnf); repeat ((first | refine ite_t rfl ?_ | refine ite_f rfl ?_ | rw [atI_0] | rw [atI_1] | refine call_1_0 ?_ | refine call_2_0 ?_ | refine call_3_0 ?_ | refine call_4_0 ?_ | refine call_5_0 ?_ | refine call_6_0 ?_ | refine call_7_0 ?_ | refine call_8_0 ?_ | refine call_9_0 ?_ | refine call_10_0 ?_ | refine call_11_0 ?_ | refine call_12_0 ?_ | refine call_13_0 ?_ | refine call_14_0 ?_ | refine call_0_0 ?_ | refine call_11_1 ?_ | refine call_11_2 ?_); (with_reducible conv => whnf))
  rw [hdel_hupd hF]
  have e1 : (ps.map fun p => shD (p.1, 1)) = ((ps.map (·.1)).map fun t => (t, 1)).map shD := by rw [List.map_map, List.map_map]; rfl
  rw [e1]
  have hts : ∀ t ∈ ps.map (·.1), t ≤ 10 ^ 6 := fun t ht => by obtain ⟨p, hp, rfl⟩ := List.mem_map.mp ht; exact (hb p hp).1
  have tl : (ps.map (·.1)).length ≤ 10 := by simpa using hl
  have T0 : 0 < (ps.map (·.1)).sum := by
    obtain ⟨p, hp, z⟩ := v4
    exact Nat.lt_of_lt_of_le z (le_sum (List.mem_map_of_mem hp))
  have T1 : (ps.map (·.1)).sum ≤ 10 ^ 7 := by
    have := K03.sum_le (10 ^ 6) (ps.map (·.1)) hts
    refine Nat.le_trans this (Nat.le_trans (Nat.mul_le_mul_right _ tl) (by decide))
  generalize ps.map (·.1) = ts at *
  intro F hF
  refine loopC_map (fun p => nD p.1) (len_ok (by simp; omega)) (fun p hp K k => ?_) ?_
  · (with_reducible conv => whnf); repeat ((first | refine ite_t rfl ?_ | refine ite_f rfl ?_ | rw [atI_0] | rw [atI_1] | refine call_1_0 ?_ | refine call_2_0 ?_ | refine call_3_0 ?_ | refine call_4_0 ?_ | refine call_5_0 ?_ | refine call_6_0 ?_ | refine call_7_0 ?_ | refine call_8_0 ?_ | refine call_9_0 ?_ | refine call_10_0 ?_ | refine call_11_0 ?_ | refine call_12_0 ?_ | refine call_13_0 ?_ | refine call_14_0 ?_ | refine call_0_0 ?_ | refine call_11_1 ?_ | refine call_11_2 ?_); (with_reducible conv => whnf))
    refine ⟨rfl, ?_⟩
    (with_reducible conv => whnf); repeat ((first | refine ite_t rfl ?_ | refine ite_f rfl ?_ | rw [atI_0] | rw [atI_1] | refine call_1_0 ?_ | refine call_2_0 ?_ | refine call_3_0 ?_ | refine call_4_0 ?_ | refine call_5_0 ?_ | refine call_6_0 ?_ | refine call_7_0 ?_ | refine call_8_0 ?_ | refine call_9_0 ?_ | refine call_10_0 ?_ | refine call_11_0 ?_ | refine call_12_0 ?_ | refine call_13_0 ?_ | refine call_14_0 ?_ | refine call_0_0 ?_ | refine call_11_1 ?_ | refine call_11_2 ?_); (with_reducible conv => whnf))
    exact k
  (with_reducible conv => whnf); repeat ((first | refine ite_t rfl ?_ | refine ite_f rfl ?_ | rw [atI_0] | rw [atI_1] | refine call_1_0 ?_ | refine call_2_0 ?_ | refine call_3_0 ?_ | refine call_4_0 ?_ | refine call_5_0 ?_ | refine call_6_0 ?_ | refine call_7_0 ?_ | refine call_8_0 ?_ | refine call_9_0 ?_ | refine call_10_0 ?_ | refine call_11_0 ?_ | refine call_12_0 ?_ | refine call_13_0 ?_ | refine call_14_0 ?_ | refine call_0_0 ?_ | refine call_11_1 ?_ | refine call_11_2 ?_); (with_reducible conv => whnf))
  rw [hdel_hupd hF]
  have e2 : ((ts.map fun t => (t, 1)).map fun p : Nat × Nat => nD p.1) = ts.map nD := by rw [List.map_map]; rfl
  rw [e2]
  (with_reducible conv => whnf); repeat ((first | refine ite_t rfl ?_ | refine ite_f rfl ?_ | rw [atI_0] | rw [atI_1] | refine call_1_0 ?_ | refine call_2_0 ?_ | refine call_3_0 ?_ | refine call_4_0 ?_ | refine call_5_0 ?_ | refine call_6_0 ?_ | refine call_7_0 ?_ | refine call_8_0 ?_ | refine call_9_0 ?_ | refine call_10_0 ?_ | refine call_11_0 ?_ | refine call_12_0 ?_ | refine call_13_0 ?_ | refine call_14_0 ?_ | refine call_0_0 ?_ | refine call_11_1 ?_ | refine call_11_2 ?_); (with_reducible conv => whnf))
  rw [sum_nD]
  (with_reducible conv => whnf); repeat ((first | refine ite_t rfl ?_ | refine ite_f rfl ?_ | rw [atI_0] | rw [atI_1] | refine call_1_0 ?_ | refine call_2_0 ?_ | refine call_3_0 ?_ | refine call_4_0 ?_ | refine call_5_0 ?_ | refine call_6_0 ?_ | refine call_7_0 ?_ | refine call_8_0 ?_ | refine call_9_0 ?_ | refine call_10_0 ?_ | refine call_11_0 ?_ | refine call_12_0 ?_ | refine call_13_0 ?_ | refine call_14_0 ?_ | refine call_0_0 ?_ | refine call_11_1 ?_ | refine call_11_2 ?_); (with_reducible conv => whnf))
  rw [sum_cast]
  refine ⟨ts.sum, _, rfl, by omega, vo, ?_⟩
  rw [split_ones, parts_whole T0]
  (with_reducible conv => whnf); repeat ((first | refine ite_t rfl ?_ | refine ite_f rfl ?_ | rw [atI_0] | rw [atI_1] | refine call_1_0 ?_ | refine call_2_0 ?_ | refine call_3_0 ?_ | refine call_4_0 ?_ | refine call_5_0 ?_ | refine call_6_0 ?_ | refine call_7_0 ?_ | refine call_8_0 ?_ | refine call_9_0 ?_ | refine call_10_0 ?_ | refine call_11_0 ?_ | refine call_12_0 ?_ | refine call_13_0 ?_ | refine call_14_0 ?_ | refine call_0_0 ?_ | refine call_11_1 ?_ | refine call_11_2 ?_); (with_reducible conv => whnf))
  refine deq_tup rfl ?_
  (with_reducible conv => whnf); repeat ((first | refine ite_t rfl ?_ | refine ite_f rfl ?_ | rw [atI_0] | rw [atI_1] | refine call_1_0 ?_ | refine call_2_0 ?_ | refine call_3_0 ?_ | refine call_4_0 ?_ | refine call_5_0 ?_ | refine call_6_0 ?_ | refine call_7_0 ?_ | refine call_8_0 ?_ | refine call_9_0 ?_ | refine call_10_0 ?_ | refine call_11_0 ?_ | refine call_12_0 ?_ | refine call_13_0 ?_ | refine call_14_0 ?_ | refine call_0_0 ?_ | refine call_11_1 ?_ | refine call_11_2 ?_); (with_reducible conv => whnf))
  refine ⟨⟨by decide, by decide, by decide⟩, ?_⟩
  (with_reducible conv => whnf); repeat ((first | refine ite_t rfl ?_ | refine ite_f rfl ?_ | rw [atI_0] | rw [atI_1] | refine call_1_0 ?_ | refine call_2_0 ?_ | refine call_3_0 ?_ | refine call_4_0 ?_ | refine call_5_0 ?_ | refine call_6_0 ?_ | refine call_7_0 ?_ | refine call_8_0 ?_ | refine call_9_0 ?_ | refine call_10_0 ?_ | refine call_11_0 ?_ | refine call_12_0 ?_ | refine call_13_0 ?_ | refine call_14_0 ?_ | refine call_0_0 ?_ | refine call_11_1 ?_ | refine call_11_2 ?_); (with_reducible conv => whnf))
  rw [sum_nD]
  (with_reducible conv => whnf); repeat ((first | refine ite_t rfl ?_ | refine ite_f rfl ?_ | rw [atI_0] | rw [atI_1] | refine call_1_0 ?_ | refine call_2_0 ?_ | refine call_3_0 ?_ | refine call_4_0 ?_ | refine call_5_0 ?_ | refine call_6_0 ?_ | refine call_7_0 ?_ | refine call_8_0 ?_ | refine call_9_0 ?_ | refine call_10_0 ?_ | refine call_11_0 ?_ | refine call_12_0 ?_ | refine call_13_0 ?_ | refine call_14_0 ?_ | refine call_0_0 ?_ | refine call_11_1 ?_ | refine call_11_2 ?_); (with_reducible conv => whnf))
  rw [sum_cast]
  refine ⟨mulL64 (by decide) (by decide), ?_⟩
  (with_reducible conv => whnf); repeat ((first | refine ite_t rfl ?_ | refine ite_f rfl ?_ | rw [atI_0] | rw [atI_1] | refine call_1_0 ?_ | refine call_2_0 ?_ | refine call_3_0 ?_ | refine call_4_0 ?_ | refine call_5_0 ?_ | refine call_6_0 ?_ | refine call_7_0 ?_ | refine call_8_0 ?_ | refine call_9_0 ?_ | refine call_10_0 ?_ | refine call_11_0 ?_ | refine call_12_0 ?_ | refine call_13_0 ?_ | refine call_14_0 ?_ | refine call_0_0 ?_ | refine call_11_1 ?_ | refine call_11_2 ?_); (with_reducible conv => whnf))
  refine ⟨a, n, _, rfl, ha, by simp; omega, by simp; omega, fun d n1 hd => ?_⟩
  have hd6 : d ≤ 10 ^ 6 := by
    have : min ((10 : Int) ^ (6 : Int).toNat) (3 * (ts.sum : Int)) ≤ 10 ^ 6 := Int.min_le_left _ _
    omega
  (with_reducible conv => whnf); repeat ((first | refine ite_t rfl ?_ | refine ite_f rfl ?_ | rw [atI_0] | rw [atI_1] | refine call_1_0 ?_ | refine call_2_0 ?_ | refine call_3_0 ?_ | refine call_4_0 ?_ | refine call_5_0 ?_ | refine call_6_0 ?_ | refine call_7_0 ?_ | refine call_8_0 ?_ | refine call_9_0 ?_ | refine call_10_0 ?_ | refine call_11_0 ?_ | refine call_12_0 ?_ | refine call_13_0 ?_ | refine call_14_0 ?_ | refine call_0_0 ?_ | refine call_11_1 ?_ | refine call_11_2 ?_); (with_reducible conv => whnf))
  refine ⟨d, _, rfl, by omega, vo, ?_⟩
  rw [split_ones]
  (with_reducible conv => whnf); repeat ((first | refine ite_t rfl ?_ | refine ite_f rfl ?_ | rw [atI_0] | rw [atI_1] | refine call_1_0 ?_ | refine call_2_0 ?_ | refine call_3_0 ?_ | refine call_4_0 ?_ | refine call_5_0 ?_ | refine call_6_0 ?_ | refine call_7_0 ?_ | refine call_8_0 ?_ | refine call_9_0 ?_ | refine call_10_0 ?_ | refine call_11_0 ?_ | refine call_12_0 ?_ | refine call_13_0 ?_ | refine call_14_0 ?_ | refine call_0_0 ?_ | refine call_11_1 ?_ | refine call_11_2 ?_); (with_reducible conv => whnf))
  refine ⟨⟨by decide, by decide, by decide⟩, ?_⟩
  (with_reducible conv => whnf); repeat ((first | refine ite_t rfl ?_ | refine ite_f rfl ?_ | rw [atI_0] | rw [atI_1] | refine call_1_0 ?_ | refine call_2_0 ?_ | refine call_3_0 ?_ | refine call_4_0 ?_ | refine call_5_0 ?_ | refine call_6_0 ?_ | refine call_7_0 ?_ | refine call_8_0 ?_ | refine call_9_0 ?_ | refine call_10_0 ?_ | refine call_11_0 ?_ | refine call_12_0 ?_ | refine call_13_0 ?_ | refine call_14_0 ?_ | refine call_0_0 ?_ | refine call_11_1 ?_ | refine call_11_2 ?_); (with_reducible conv => whnf))
  rw [sum_nD]
  (with_reducible conv => whnf); repeat ((first | refine ite_t rfl ?_ | refine ite_f rfl ?_ | rw [atI_0] | rw [atI_1] | refine call_1_0 ?_ | refine call_2_0 ?_ | refine call_3_0 ?_ | refine call_4_0 ?_ | refine call_5_0 ?_ | refine call_6_0 ?_ | refine call_7_0 ?_ | refine call_8_0 ?_ | refine call_9_0 ?_ | refine call_10_0 ?_ | refine call_11_0 ?_ | refine call_12_0 ?_ | refine call_13_0 ?_ | refine call_14_0 ?_ | refine call_0_0 ?_ | refine call_11_1 ?_ | refine call_11_2 ?_); (with_reducible conv => whnf))
  rw [sum_cast]
  refine ⟨log_lt T0 (by omega), ?_⟩
  (with_reducible conv => whnf); repeat ((first | refine ite_t rfl ?_ | refine ite_f rfl ?_ | rw [atI_0] | rw [atI_1] | refine call_1_0 ?_ | refine call_2_0 ?_ | refine call_3_0 ?_ | refine call_4_0 ?_ | refine call_5_0 ?_ | refine call_6_0 ?_ | refine call_7_0 ?_ | refine call_8_0 ?_ | refine call_9_0 ?_ | refine call_10_0 ?_ | refine call_11_0 ?_ | refine call_12_0 ?_ | refine call_13_0 ?_ | refine call_14_0 ?_ | refine call_0_0 ?_ | refine call_11_1 ?_ | refine call_11_2 ?_); (with_reducible conv => whnf))
  have em : ((10 : Int) ^ (12 : Int).toNat - (d : Int)) / (ts.sum : Int) = (((10 ^ 12 - d) / ts.sum : Nat) : Int) := by
    have : ((10 : Int) ^ (12 : Int).toNat - (d : Int)) = ((10 ^ 12 - d : Nat) : Int) := by
      have : (10 : Int) ^ (12 : Int).toNat = 1000000000000 := by decide
      omega
    rw [this]; rfl
  rw [em]
  have m1 : (10 ^ 12 - d) / ts.sum * ts.sum ≤ 10 ^ 12 - d := Nat.div_mul_le_self _ _
  have m2 : 2 ≤ (10 ^ 12 - d) / ts.sum := (Nat.le_div_iff_mul_le T0).mpr (by omega)
  have m3 : (10 ^ 12 - d) / ts.sum ≤ 10 ^ 12 := Nat.le_trans (Nat.div_le_self _ _) (Nat.sub_le _ _)
  generalize (10 ^ 12 - d) / ts.sum = most at *
  refine ⟨a, n1, _, rfl, hupd_same, by omega, by omega, fun d2 n2 hd2 => ?_⟩
  rw [hupd_hupd]
  (with_reducible conv => whnf); repeat ((first | refine ite_t rfl ?_ | refine ite_f rfl ?_ | rw [atI_0] | rw [atI_1] | refine call_1_0 ?_ | refine call_2_0 ?_ | refine call_3_0 ?_ | refine call_4_0 ?_ | refine call_5_0 ?_ | refine call_6_0 ?_ | refine call_7_0 ?_ | refine call_8_0 ?_ | refine call_9_0 ?_ | refine call_10_0 ?_ | refine call_11_0 ?_ | refine call_12_0 ?_ | refine call_13_0 ?_ | refine call_14_0 ?_ | refine call_0_0 ?_ | refine call_11_1 ?_ | refine call_11_2 ?_); (with_reducible conv => whnf))
  refine ⟨(by decide : 4 ≤ sizeLine), ?_⟩
  (with_reducible conv => whnf); repeat ((first | refine ite_t rfl ?_ | refine ite_f rfl ?_ | rw [atI_0] | rw [atI_1] | refine call_1_0 ?_ | refine call_2_0 ?_ | refine call_3_0 ?_ | refine call_4_0 ?_ | refine call_5_0 ?_ | refine call_6_0 ?_ | refine call_7_0 ?_ | refine call_8_0 ?_ | refine call_9_0 ?_ | refine call_10_0 ?_ | refine call_11_0 ?_ | refine call_12_0 ?_ | refine call_13_0 ?_ | refine call_14_0 ?_ | refine call_0_0 ?_ | refine call_11_1 ?_ | refine call_11_2 ?_); (with_reducible conv => whnf))
  refine loopF_keep (enc := nD) (l := [1, 2, d2, most]) (fun ρ h' => ∃ o9 o10, ρ = [some (.ref a), some (.tup (ps.map shD)), some (.tup ((ts.map fun t => (t, 1)).map shD)), none, none, some (.lst (ts.map nD)), some (.int d), some (.tup ((partsBy d ts).map nD)), some (.int most), o9, o10, none] ∧ h' = hupd h a (.lst [.int n2])) ?_ ?_ ⟨none, none, rfl, rfl⟩
  · rintro ρ h' ⟨o9, o10, rfl, rfl⟩
    (with_reducible conv => whnf); repeat ((first | refine ite_t rfl ?_ | refine ite_f rfl ?_ | rw [atI_0] | rw [atI_1] | refine call_1_0 ?_ | refine call_2_0 ?_ | refine call_3_0 ?_ | refine call_4_0 ?_ | refine call_5_0 ?_ | refine call_6_0 ?_ | refine call_7_0 ?_ | refine call_8_0 ?_ | refine call_9_0 ?_ | refine call_10_0 ?_ | refine call_11_0 ?_ | refine call_12_0 ?_ | refine call_13_0 ?_ | refine call_14_0 ?_ | refine call_0_0 ?_ | refine call_11_1 ?_ | refine call_11_2 ?_); (with_reducible conv => whnf))
    exact hQ n2
  · rintro t ρ h' K ht ⟨o9, o10, rfl, rfl⟩ hK
    have tm : t ≤ most := by
      simp only [List.mem_cons, List.not_mem_nil, or_false] at ht
      omega
    have tT : t * ts.sum ≤ 10 ^ 12 - d := Nat.le_trans (Nat.mul_le_mul_right _ tm) m1
    have zl : ((partsBy d ts).zip ts).length ≤ 64 := by rw [List.length_zip]; omega
    (with_reducible conv => whnf); repeat ((first | refine ite_t rfl ?_ | refine ite_f rfl ?_ | rw [atI_0] | rw [atI_1] | refine call_1_0 ?_ | refine call_2_0 ?_ | refine call_3_0 ?_ | refine call_4_0 ?_ | refine call_5_0 ?_ | refine call_6_0 ?_ | refine call_7_0 ?_ | refine call_8_0 ?_ | refine call_9_0 ?_ | refine call_10_0 ?_ | refine call_11_0 ?_ | refine call_12_0 ?_ | refine call_13_0 ?_ | refine call_14_0 ?_ | refine call_0_0 ?_ | refine call_11_1 ?_ | refine call_11_2 ?_); (with_reducible conv => whnf))
    intro F hF
    rw [zip_nD]
    refine loopC_map (fun p => nD (p.1 + t * p.2)) (len_ok zl) (fun p hp K k => ?_) ?_
    · (with_reducible conv => whnf); repeat ((first | refine ite_t rfl ?_ | refine ite_f rfl ?_ | rw [atI_0] | rw [atI_1] | refine call_1_0 ?_ | refine call_2_0 ?_ | refine call_3_0 ?_ | refine call_4_0 ?_ | refine call_5_0 ?_ | refine call_6_0 ?_ | refine call_7_0 ?_ | refine call_8_0 ?_ | refine call_9_0 ?_ | refine call_10_0 ?_ | refine call_11_0 ?_ | refine call_12_0 ?_ | refine call_13_0 ?_ | refine call_14_0 ?_ | refine call_0_0 ?_ | refine call_11_1 ?_ | refine call_11_2 ?_); (with_reducible conv => whnf))
      refine ⟨rfl, ?_⟩
      (with_reducible conv => whnf); repeat ((first | refine ite_t rfl ?_ | refine ite_f rfl ?_ | rw [atI_0] | rw [atI_1] | refine call_1_0 ?_ | refine call_2_0 ?_ | refine call_3_0 ?_ | refine call_4_0 ?_ | refine call_5_0 ?_ | refine call_6_0 ?_ | refine call_7_0 ?_ | refine call_8_0 ?_ | refine call_9_0 ?_ | refine call_10_0 ?_ | refine call_11_0 ?_ | refine call_12_0 ?_ | refine call_13_0 ?_ | refine call_14_0 ?_ | refine call_0_0 ?_ | refine call_11_1 ?_ | refine call_11_2 ?_); (with_reducible conv => whnf))
      exact ⟨mulL64 (by omega) (by omega), k⟩
    (with_reducible conv => whnf); repeat ((first | refine ite_t rfl ?_ | refine ite_f rfl ?_ | rw [atI_0] | rw [atI_1] | refine call_1_0 ?_ | refine call_2_0 ?_ | refine call_3_0 ?_ | refine call_4_0 ?_ | refine call_5_0 ?_ | refine call_6_0 ?_ | refine call_7_0 ?_ | refine call_8_0 ?_ | refine call_9_0 ?_ | refine call_10_0 ?_ | refine call_11_0 ?_ | refine call_12_0 ?_ | refine call_13_0 ?_ | refine call_14_0 ?_ | refine call_0_0 ?_ | refine call_11_1 ?_ | refine call_11_2 ?_); (with_reducible conv => whnf))
    rw [hdel_hupd hF, map_nD (fun p : Nat × Nat => p.1 + t * p.2)]
    rw [sum_nD]
    (with_reducible conv => whnf); repeat ((first | refine ite_t rfl ?_ | refine ite_f rfl ?_ | rw [atI_0] | rw [atI_1] | refine call_1_0 ?_ | refine call_2_0 ?_ | refine call_3_0 ?_ | refine call_4_0 ?_ | refine call_5_0 ?_ | refine call_6_0 ?_ | refine call_7_0 ?_ | refine call_8_0 ?_ | refine call_9_0 ?_ | refine call_10_0 ?_ | refine call_11_0 ?_ | refine call_12_0 ?_ | refine call_13_0 ?_ | refine call_14_0 ?_ | refine call_0_0 ?_ | refine call_11_1 ?_ | refine call_11_2 ?_); (with_reducible conv => whnf))
    rw [sum_cast]
    refine ⟨mulL64 (by omega) (by omega), ?_⟩
    (with_reducible conv => whnf); repeat ((first | refine ite_t rfl ?_ | refine ite_f rfl ?_ | rw [atI_0] | rw [atI_1] | refine call_1_0 ?_ | refine call_2_0 ?_ | refine call_3_0 ?_ | refine call_4_0 ?_ | refine call_5_0 ?_ | refine call_6_0 ?_ | refine call_7_0 ?_ | refine call_8_0 ?_ | refine call_9_0 ?_ | refine call_10_0 ?_ | refine call_11_0 ?_ | refine call_12_0 ?_ | refine call_13_0 ?_ | refine call_14_0 ?_ | refine call_0_0 ?_ | refine call_11_1 ?_ | refine call_11_2 ?_); (with_reducible conv => whnf))
    refine ⟨d + t * ts.sum, _, rfl, by omega, vo, ?_⟩
    rw [split_ones, parts_more T0]
    (with_reducible conv => whnf); repeat ((first | refine ite_t rfl ?_ | refine ite_f rfl ?_ | rw [atI_0] | rw [atI_1] | refine call_1_0 ?_ | refine call_2_0 ?_ | refine call_3_0 ?_ | refine call_4_0 ?_ | refine call_5_0 ?_ | refine call_6_0 ?_ | refine call_7_0 ?_ | refine call_8_0 ?_ | refine call_9_0 ?_ | refine call_10_0 ?_ | refine call_11_0 ?_ | refine call_12_0 ?_ | refine call_13_0 ?_ | refine call_14_0 ?_ | refine call_0_0 ?_ | refine call_11_1 ?_ | refine call_11_2 ?_); (with_reducible conv => whnf))
    refine deq_tup (zipWith_zip _ _ _) ?_
    (with_reducible conv => whnf); repeat ((first | refine ite_t rfl ?_ | refine ite_f rfl ?_ | rw [atI_0] | rw [atI_1] | refine call_1_0 ?_ | refine call_2_0 ?_ | refine call_3_0 ?_ | refine call_4_0 ?_ | refine call_5_0 ?_ | refine call_6_0 ?_ | refine call_7_0 ?_ | refine call_8_0 ?_ | refine call_9_0 ?_ | refine call_10_0 ?_ | refine call_11_0 ?_ | refine call_12_0 ?_ | refine call_13_0 ?_ | refine call_14_0 ?_ | refine call_0_0 ?_ | refine call_11_1 ?_ | refine call_11_2 ?_); (with_reducible conv => whnf))
    exact hK _ _ ⟨_, _, rfl, rfl⟩
theorem w_law : Meets G N_law 1 b_law (lawS 63) := by
  rintro ds h Q Xd - ⟨is, rfl, hl, hQ⟩
  (with_reducible conv => whnf); repeat ((first | refine ite_t rfl ?_ | refine ite_f rfl ?_ | rw [atI_0] | rw [atI_1] | refine call_1_0 ?_ | refine call_2_0 ?_ | refine call_3_0 ?_ | refine call_4_0 ?_ | refine call_5_0 ?_ | refine call_6_0 ?_ | refine call_7_0 ?_ | refine call_8_0 ?_ | refine call_9_0 ?_ | refine call_10_0 ?_ | refine call_11_0 ?_ | refine call_12_0 ?_ | refine call_13_0 ?_ | refine call_14_0 ?_ | refine call_0_0 ?_ | refine call_11_1 ?_ | refine call_11_2 ?_); (with_reducible conv => whnf))
  refine ⟨by constructor <;> omega, ?_⟩
  refine loopF_rule (enc := fun i : Nat => .int (0 + (i : Int) * 1)) (l := List.range _) (fun _ ρ h' => ∃ o1 o2 o3 o4, ρ = [some (.scr is), o1, o2, o3, o4]) ?_ ?_ ⟨none, none, none, none, rfl⟩
  · rintro ρ h' ⟨o1, o2, o3, o4, rfl⟩
    (with_reducible conv => whnf); repeat ((first | refine ite_t rfl ?_ | refine ite_f rfl ?_ | rw [atI_0] | rw [atI_1] | refine call_1_0 ?_ | refine call_2_0 ?_ | refine call_3_0 ?_ | refine call_4_0 ?_ | refine call_5_0 ?_ | refine call_6_0 ?_ | refine call_7_0 ?_ | refine call_8_0 ?_ | refine call_9_0 ?_ | refine call_10_0 ?_ | refine call_11_0 ?_ | refine call_12_0 ?_ | refine call_13_0 ?_ | refine call_14_0 ?_ | refine call_0_0 ?_ | refine call_11_1 ?_ | refine call_11_2 ?_); (with_reducible conv => whnf))
    exact hQ h'
  · rintro pre k suf ρ h' K e ⟨o1, o2, o3, o4, rfl⟩ hK
    have hk : k < 8 := by
      have : k ∈ List.range (max 1 (min ((List.map D.int is).length : Int) 8)).toNat := by rw [e]; simp
      have := List.mem_range.mp this
      omega
    have e0 : (0 + (k : Int) * 1) = (k : Int) := by omega
    rw [e0]
    (with_reducible conv => whnf); repeat ((first | refine ite_t rfl ?_ | refine ite_f rfl ?_ | rw [atI_0] | rw [atI_1] | refine call_1_0 ?_ | refine call_2_0 ?_ | refine call_3_0 ?_ | refine call_4_0 ?_ | refine call_5_0 ?_ | refine call_6_0 ?_ | refine call_7_0 ?_ | refine call_8_0 ?_ | refine call_9_0 ?_ | refine call_10_0 ?_ | refine call_11_0 ?_ | refine call_12_0 ?_ | refine call_13_0 ?_ | refine call_14_0 ?_ | refine call_0_0 ?_ | refine call_11_1 ?_ | refine call_11_2 ?_); (with_reducible conv => whnf))
    refine ⟨is, k, rfl, hk, fun a n ha => ?_⟩
    (with_reducible conv => whnf); repeat ((first | refine ite_t rfl ?_ | refine ite_f rfl ?_ | rw [atI_0] | rw [atI_1] | refine call_1_0 ?_ | refine call_2_0 ?_ | refine call_3_0 ?_ | refine call_4_0 ?_ | refine call_5_0 ?_ | refine call_6_0 ?_ | refine call_7_0 ?_ | refine call_8_0 ?_ | refine call_9_0 ?_ | refine call_10_0 ?_ | refine call_11_0 ?_ | refine call_12_0 ?_ | refine call_13_0 ?_ | refine call_14_0 ?_ | refine call_0_0 ?_ | refine call_11_1 ?_ | refine call_11_2 ?_); (with_reducible conv => whnf))
    refine ⟨a, n, rfl, hupd_same, fun ps n1 hv hl2 hb => ?_⟩
    rw [hupd_hupd]
    (with_reducible conv => whnf); repeat ((first | refine ite_t rfl ?_ | refine ite_f rfl ?_ | rw [atI_0] | rw [atI_1] | refine call_1_0 ?_ | refine call_2_0 ?_ | refine call_3_0 ?_ | refine call_4_0 ?_ | refine call_5_0 ?_ | refine call_6_0 ?_ | refine call_7_0 ?_ | refine call_8_0 ?_ | refine call_9_0 ?_ | refine call_10_0 ?_ | refine call_11_0 ?_ | refine call_12_0 ?_ | refine call_13_0 ?_ | refine call_14_0 ?_ | refine call_0_0 ?_ | refine call_11_1 ?_ | refine call_11_2 ?_); (with_reducible conv => whnf))
    refine ⟨a, n1, 60, rfl, hupd_same, by decide, by decide, fun d1 n2 hd1 => ?_⟩
    rw [hupd_hupd]
    (with_reducible conv => whnf); repeat ((first | refine ite_t rfl ?_ | refine ite_f rfl ?_ | rw [atI_0] | rw [atI_1] | refine call_1_0 ?_ | refine call_2_0 ?_ | refine call_3_0 ?_ | refine call_4_0 ?_ | refine call_5_0 ?_ | refine call_6_0 ?_ | refine call_7_0 ?_ | refine call_8_0 ?_ | refine call_9_0 ?_ | refine call_10_0 ?_ | refine call_11_0 ?_ | refine call_12_0 ?_ | refine call_13_0 ?_ | refine call_14_0 ?_ | refine call_0_0 ?_ | refine call_11_1 ?_ | refine call_11_2 ?_); (with_reducible conv => whnf))
    refine ⟨⟨by decide, by decide, by decide⟩, ?_⟩
    (with_reducible conv => whnf); repeat ((first | refine ite_t rfl ?_ | refine ite_f rfl ?_ | rw [atI_0] | rw [atI_1] | refine call_1_0 ?_ | refine call_2_0 ?_ | refine call_3_0 ?_ | refine call_4_0 ?_ | refine call_5_0 ?_ | refine call_6_0 ?_ | refine call_7_0 ?_ | refine call_8_0 ?_ | refine call_9_0 ?_ | refine call_10_0 ?_ | refine call_11_0 ?_ | refine call_12_0 ?_ | refine call_13_0 ?_ | refine call_14_0 ?_ | refine call_0_0 ?_ | refine call_11_1 ?_ | refine call_11_2 ?_); (with_reducible conv => whnf))
    refine ⟨a, n2, _, rfl, hupd_same, by decide, by decide, fun d2 n3 hd2 => ?_⟩
    have hd2 : (d2 : Int) < 10 ^ 12 + 1 := hd2
    rw [hupd_hupd]
    (with_reducible conv => whnf); repeat ((first | refine ite_t rfl ?_ | refine ite_f rfl ?_ | rw [atI_0] | rw [atI_1] | refine call_1_0 ?_ | refine call_2_0 ?_ | refine call_3_0 ?_ | refine call_4_0 ?_ | refine call_5_0 ?_ | refine call_6_0 ?_ | refine call_7_0 ?_ | refine call_8_0 ?_ | refine call_9_0 ?_ | refine call_10_0 ?_ | refine call_11_0 ?_ | refine call_12_0 ?_ | refine call_13_0 ?_ | refine call_14_0 ?_ | refine call_0_0 ?_ | refine call_11_1 ?_ | refine call_11_2 ?_); (with_reducible conv => whnf))
    refine ⟨⟨by decide, by decide, by decide⟩, (by decide : 5 ≤ sizeLine), ?_⟩
    (with_reducible conv => whnf)
    refine ite_f rfl ?_
    (with_reducible conv => whnf)
    refine loopF_keep (enc := nD) (l := [0, 1, d1, d2, 10 ^ 12]) (fun ρ h' => ∃ o4 n', ρ = [some (.scr is), some (.int k), some (.ref a), some (.tup (ps.map shD)), o4] ∧ h' a = some (.lst [.int n'])) ?_ ?_ ⟨_, n3, rfl, hupd_same⟩
    · rintro ρ h2 ⟨o4, n', rfl, hp⟩
      (with_reducible conv => whnf); repeat ((first | refine ite_t rfl ?_ | refine ite_f rfl ?_ | rw [atI_0] | rw [atI_1] | refine call_1_0 ?_ | refine call_2_0 ?_ | refine call_3_0 ?_ | refine call_4_0 ?_ | refine call_5_0 ?_ | refine call_6_0 ?_ | refine call_7_0 ?_ | refine call_8_0 ?_ | refine call_9_0 ?_ | refine call_10_0 ?_ | refine call_11_0 ?_ | refine call_12_0 ?_ | refine call_13_0 ?_ | refine call_14_0 ?_ | refine call_0_0 ?_ | refine call_11_1 ?_ | refine call_11_2 ?_); (with_reducible conv => whnf))
      refine ⟨a, n', ps, rfl, hp, hv, hl2, hb, fun n4 => ?_⟩
      (with_reducible conv => whnf); repeat ((first | refine ite_t rfl ?_ | refine ite_f rfl ?_ | rw [atI_0] | rw [atI_1] | refine call_1_0 ?_ | refine call_2_0 ?_ | refine call_3_0 ?_ | refine call_4_0 ?_ | refine call_5_0 ?_ | refine call_6_0 ?_ | refine call_7_0 ?_ | refine call_8_0 ?_ | refine call_9_0 ?_ | refine call_10_0 ?_ | refine call_11_0 ?_ | refine call_12_0 ?_ | refine call_13_0 ?_ | refine call_14_0 ?_ | refine call_0_0 ?_ | refine call_11_1 ?_ | refine call_11_2 ?_); (with_reducible conv => whnf))
      exact hK _ _ ⟨_, _, _, _, rfl⟩
    · rintro t ρ h2 K2 ht ⟨o4, n', rfl, hp⟩ hK2
      have ht : t ≤ 10 ^ 12 := by
        simp only [List.mem_cons, List.not_mem_nil, or_false] at ht
        omega
      (with_reducible conv => whnf); repeat ((first | refine ite_t rfl ?_ | refine ite_f rfl ?_ | rw [atI_0] | rw [atI_1] | refine call_1_0 ?_ | refine call_2_0 ?_ | refine call_3_0 ?_ | refine call_4_0 ?_ | refine call_5_0 ?_ | refine call_6_0 ?_ | refine call_7_0 ?_ | refine call_8_0 ?_ | refine call_9_0 ?_ | refine call_10_0 ?_ | refine call_11_0 ?_ | refine call_12_0 ?_ | refine call_13_0 ?_ | refine call_14_0 ?_ | refine call_0_0 ?_ | refine call_11_1 ?_ | refine call_11_2 ?_); (with_reducible conv => whnf))
      refine ⟨a, n', t, ps, rfl, hp, ht, hv, hl2, hb, fun n4 => ?_⟩
      (with_reducible conv => whnf); repeat ((first | refine ite_t rfl ?_ | refine ite_f rfl ?_ | rw [atI_0] | rw [atI_1] | refine call_1_0 ?_ | refine call_2_0 ?_ | refine call_3_0 ?_ | refine call_4_0 ?_ | refine call_5_0 ?_ | refine call_6_0 ?_ | refine call_7_0 ?_ | refine call_8_0 ?_ | refine call_9_0 ?_ | refine call_10_0 ?_ | refine call_11_0 ?_ | refine call_12_0 ?_ | refine call_13_0 ?_ | refine call_14_0 ?_ | refine call_0_0 ?_ | refine call_11_1 ?_ | refine call_11_2 ?_); (with_reducible conv => whnf))
      exact hK2 _ _ ⟨_, _, rfl, hupd_same⟩
end K03
namespace K03
open PySem PySem.Spec PyProof.Rows L2 Y
theorem facts {P : Program} {w : World} {K : PySem.W.Frag} {h : Heap} {mg : Str → Option Value} {f : Addr} (X : K.In h) (G0 : h.Ns mainGlobals mg) (hfa : mg ("law" : Str) = some (.ref f)) (c : SaysY fa fn cnD K) :
    ∃ fd : FuncData, (∀ (s : Shared) (v : Value), BindsTo s fd ⟨[v], []⟩ [("script", v)]) ∧ ∀ base : Heap, K.In base → base.Ns mainGlobals mg → FnOk P w K mg base (L2.CX P w) 16 f fd ["script"] (toSp K 1 (lawS 63)) := by
  have hfree := free_all X G0 c.d
  have hcn : ∀ (j : Nat) (x : Str), cns[j]? = some x → ∃ u v, mg x = some u ∧ RelV v u ∧ ∀ H h, Rep K H h (G.Γ j) v := fun j x e => match j, e with
    | 0, e => by cases e; exact cn_ok X G0 c.c (j := 0) rfl
    | 1, e => by cases e; exact cn_ok X G0 c.c (j := 1) rfl
    | _ + 2, e => by cases e
  obtain ⟨fd0, F0⟩ := c.d.def_ 0 (d := dd 17 "_law_pool") rfl
  have g0 : mg i__law_pool.name = some (.ref (He.ga K "_law_pool")) := glo_all X G0 c.d (by decide +kernel)
  have k0 : ∀ sh ∈ i__law_pool.shapes, KSh K fd0 i__law_pool.ps sh := (kshs_cons (ksh_pos (n := 2) F0 rfl fun _ _ _ _ _ _ us hl => match us, hl with | [_, _], _ => by kernel_rfl) kshs_nil)
  obtain ⟨fd1, F1⟩ := c.d.def_ 1 (d := dd 18 "_law_take") rfl
  have g1 : mg i__law_take.name = some (.ref (He.ga K "_law_take")) := glo_all X G0 c.d (by decide +kernel)
  have k1 : ∀ sh ∈ i__law_take.shapes, KSh K fd1 i__law_take.ps sh := (kshs_cons (ksh_pos (n := 2) F1 rfl fun _ _ _ _ _ _ us hl => match us, hl with | [_, _], _ => by kernel_rfl) kshs_nil)
  obtain ⟨fd2, F2⟩ := c.d.def_ 2 (d := dd 19 "_law_low") rfl
  have g2 : mg i__law_low.name = some (.ref (He.ga K "_law_low")) := glo_all X G0 c.d (by decide +kernel)
  have k2 : ∀ sh ∈ i__law_low.shapes, KSh K fd2 i__law_low.ps sh := (kshs_cons (ksh_pos (n := 2) F2 rfl fun _ _ _ _ _ _ us hl => match us, hl with | [_, _], _ => by kernel_rfl) kshs_nil)
  obtain ⟨fd3, F3⟩ := c.d.def_ 3 (d := dd 20 "_law_shares") rfl
  have g3 : mg i__law_shares.name = some (.ref (He.ga K "_law_shares")) := glo_all X G0 c.d (by decide +kernel)
  have k3 : ∀ sh ∈ i__law_shares.shapes, KSh K fd3 i__law_shares.ps sh := (kshs_cons (ksh_pos (n := 1) F3 rfl fun _ _ _ _ _ _ us hl => match us, hl with | [_], _ => by kernel_rfl) kshs_nil)
  obtain ⟨fd4, F4⟩ := c.d.def_ 4 (d := dd 5 "is_whole") rfl
  have g4 : mg i_is_whole.name = some (.ref (He.ga K "is_whole")) := glo_all X G0 c.d (by decide +kernel)
  have k4 : ∀ sh ∈ i_is_whole.shapes, KSh K fd4 i_is_whole.ps sh := (kshs_cons (ksh_pos (n := 1) F4 rfl fun _ _ _ _ _ _ us hl => match us, hl with | [_], _ => by kernel_rfl) kshs_nil)
  obtain ⟨fd5, F5⟩ := c.d.def_ 5 (d := dd 6 "is_between") rfl
  have g5 : mg i_is_between.name = some (.ref (He.ga K "is_between")) := glo_all X G0 c.d (by decide +kernel)
  have k5 : ∀ sh ∈ i_is_between.shapes, KSh K fd5 i_is_between.ps sh := (kshs_cons (ksh_pos (n := 3) F5 rfl fun _ _ _ _ _ _ us hl => match us, hl with | [_, _, _], _ => by kernel_rfl) kshs_nil)
  obtain ⟨fd6, F6⟩ := c.d.def_ 6 (d := dd 10 "divisor") rfl
  have g6 : mg i_divisor.name = some (.ref (He.ga K "divisor")) := glo_all X G0 c.d (by decide +kernel)
  have k6 : ∀ sh ∈ i_divisor.shapes, KSh K fd6 i_divisor.ps sh := (kshs_cons (ksh_pos (n := 2) F6 rfl fun _ _ _ _ _ _ us hl => match us, hl with | [_, _], _ => by kernel_rfl) kshs_nil)
  obtain ⟨fd7, F7⟩ := c.d.def_ 7 (d := dd 11 "is_share") rfl
  have g7 : mg i_is_share.name = some (.ref (He.ga K "is_share")) := glo_all X G0 c.d (by decide +kernel)
  have k7 : ∀ sh ∈ i_is_share.shapes, KSh K fd7 i_is_share.ps sh := (kshs_cons (ksh_pos (n := 1) F7 rfl fun _ _ _ _ _ _ us hl => match us, hl with | [_], _ => by kernel_rfl) kshs_nil)
  obtain ⟨fd8, F8⟩ := c.d.def_ 8 (d := dd 12 "are_shares") rfl
  have g8 : mg i_are_shares.name = some (.ref (He.ga K "are_shares")) := glo_all X G0 c.d (by decide +kernel)
  have k8 : ∀ sh ∈ i_are_shares.shapes, KSh K fd8 i_are_shares.ps sh := (kshs_cons (ksh_pos (n := 1) F8 rfl fun _ _ _ _ _ _ us hl => match us, hl with | [_], _ => by kernel_rfl) kshs_nil)
  obtain ⟨fd9, F9⟩ := c.d.def_ 9 (d := dd 13 "parts_by") rfl
  have g9 : mg i_parts_by.name = some (.ref (He.ga K "parts_by")) := glo_all X G0 c.d (by decide +kernel)
  have k9 : ∀ sh ∈ i_parts_by.shapes, KSh K fd9 i_parts_by.ps sh := (kshs_cons (ksh_pos (n := 2) F9 rfl fun _ _ _ _ _ _ us hl => match us, hl with | [_, _], _ => by kernel_rfl) kshs_nil)
  obtain ⟨fd10, F10⟩ := c.d.def_ 10 (d := dd 14 "split_by") rfl
  have g10 : mg i_split_by.name = some (.ref (He.ga K "split_by")) := glo_all X G0 c.d (by decide +kernel)
  have k10 : ∀ sh ∈ i_split_by.shapes, KSh K fd10 i_split_by.ps sh := (kshs_cons (ksh_pos (n := 2) F10 rfl fun _ _ _ _ _ _ us hl => match us, hl with | [_, _], _ => by kernel_rfl) kshs_nil)
  obtain ⟨fd11, F11⟩ := c.d.def_ 11 (d := dd 15 "parted") rfl
  have g11 : mg i_parted.name = some (.ref (He.ga K "parted")) := glo_all X G0 c.d (by decide +kernel)
  have k11 : ∀ sh ∈ i_parted.shapes, KSh K fd11 i_parted.ps sh := (kshs_cons (ksh_pos (n := 2) F11 rfl fun _ _ _ _ _ _ us hl => match us, hl with | [_, _], _ => by kernel_rfl) (kshs_cons (ksh_kw (n := 0) (ks := ["shares", "amount"]) (pl := [.k 1, .k 0]) F11 rfl fun _ _ _ _ _ _ us ws h1 h2 => match us, ws, h1, h2 with | [], [w0, w1], _, _ => ⟨[w1, w0], rfl, rfl, by kernel_rfl⟩) (kshs_cons (ksh_kw (n := 0) (ks := ["amount", "shares"]) (pl := [.k 0, .k 1]) F11 rfl fun _ _ _ _ _ _ us ws h1 h2 => match us, ws, h1, h2 with | [], [w0, w1], _, _ => ⟨[w0, w1], rfl, rfl, by kernel_rfl⟩) kshs_nil)))
  obtain ⟨fd12, F12⟩ := c.d.def_ 12 (d := dd 21 "_law_between") rfl
  have g12 : mg i__law_between.name = some (.ref (He.ga K "_law_between")) := glo_all X G0 c.d (by decide +kernel)
  have k12 : ∀ sh ∈ i__law_between.shapes, KSh K fd12 i__law_between.ps sh := (kshs_cons (ksh_pos (n := 2) F12 rfl fun _ _ _ _ _ _ us hl => match us, hl with | [_, _], _ => by kernel_rfl) kshs_nil)
  obtain ⟨fd13, F13⟩ := c.d.def_ 13 (d := dd 23 "_law_right") rfl
  have g13 : mg i__law_right.name = some (.ref (He.ga K "_law_right")) := glo_all X G0 c.d (by decide +kernel)
  have k13 : ∀ sh ∈ i__law_right.shapes, KSh K fd13 i__law_right.ps sh := (kshs_cons (ksh_pos (n := 3) F13 rfl fun _ _ _ _ _ _ us hl => match us, hl with | [_, _, _], _ => by kernel_rfl) kshs_nil)
  obtain ⟨fd14, F14⟩ := c.d.def_ 14 (d := dd 22 "_law_whole_right") rfl
  have g14 : mg i__law_whole_right.name = some (.ref (He.ga K "_law_whole_right")) := glo_all X G0 c.d (by decide +kernel)
  have k14 : ∀ sh ∈ i__law_whole_right.shapes, KSh K fd14 i__law_whole_right.ps sh := (kshs_cons (ksh_pos (n := 2) F14 rfl fun _ _ _ _ _ _ us hl => match us, hl with | [_, _], _ => by kernel_rfl) kshs_nil)
  obtain ⟨fd15, F15⟩ := c.d.def_ 15 (d := dd 24 "law") rfl
  have g15 : mg i_law.name = some (.ref (He.ga K "law")) := glo_all X G0 c.d (by decide +kernel)
  have e := hfa.symm.trans g15
  cases e
  have b := FunD.bindsA (ps := ["script"]) F15 fun _ _ _ _ _ _ us hl => match us, hl with | [_], _ => by kernel_rfl
  refine ⟨fd15, fun s v => b s [v] rfl, fun base _ _ => ?_⟩
  have A0 : All P w K mg base G 0 T0 := .nil
  have A1 : All P w K mg base G 1 T1 := A0.cons (fn_mk F0 g0 k0 (fn_ok F0 s__law_pool hfree hcn A0 m__law_pool w_pool)) fun s sh e => shOf_ok rfl e
  have A2 : All P w K mg base G 2 T2 := A1.cons (fn_mk F1 g1 k1 (fn_ok F1 s__law_take hfree hcn A1 m__law_take w_take)) fun s sh e => shOf_ok rfl e
  have A3 : All P w K mg base G 3 T3 := A2.cons (fn_mk F2 g2 k2 (fn_ok F2 s__law_low hfree hcn A2 m__law_low w_low)) fun s sh e => shOf_ok rfl e
  have A4 : All P w K mg base G 4 T4 := A3.cons (fn_mk F3 g3 k3 (fn_ok F3 s__law_shares hfree hcn A3 m__law_shares w_shares)) fun s sh e => shOf_ok rfl e
  have A5 : All P w K mg base G 5 T5 := A4.cons (fn_mk F4 g4 k4 (fn_ok F4 s_is_whole hfree hcn A4 m_is_whole w_is_whole)) fun s sh e => shOf_ok rfl e
  have A6 : All P w K mg base G 6 T6 := A5.cons (fn_mk F5 g5 k5 (fn_ok F5 s_is_between hfree hcn A5 m_is_between w_is_between)) fun s sh e => shOf_ok rfl e
  have A7 : All P w K mg base G 7 T7 := A6.cons (fn_mk F6 g6 k6 (fn_ok F6 s_divisor hfree hcn A6 m_divisor w_divisor)) fun s sh e => shOf_ok rfl e
  have A8 : All P w K mg base G 8 T8 := A7.cons (fn_mk F7 g7 k7 (fn_ok F7 s_is_share hfree hcn A7 m_is_share w_is_share)) fun s sh e => shOf_ok rfl e
  have A9 : All P w K mg base G 9 T9 := A8.cons (fn_mk F8 g8 k8 (fn_ok F8 s_are_shares hfree hcn A8 m_are_shares w_are_shares)) fun s sh e => shOf_ok rfl e
  have A10 : All P w K mg base G 10 T10 := A9.cons (fn_mk F9 g9 k9 (fn_ok F9 s_parts_by hfree hcn A9 m_parts_by w_parts_by)) fun s sh e => shOf_ok rfl e
  have A11 : All P w K mg base G 11 T11 := A10.cons (fn_mk F10 g10 k10 (fn_ok F10 s_split_by hfree hcn A10 m_split_by w_split_by)) fun s sh e => shOf_ok rfl e
  have A12 : All P w K mg base G 12 T12 := A11.cons (fn_mk F11 g11 k11 (fn_ok F11 s_parted hfree hcn A11 m_parted w_parted)) fun s sh e => shOf_ok rfl e
  have A13 : All P w K mg base G 13 T13 := A12.cons (fn_mk F12 g12 k12 (fn_ok F12 s__law_between hfree hcn A12 m__law_between w_between)) fun s sh e => shOf_ok rfl e
  have A14 : All P w K mg base G 14 T14 := A13.cons (fn_mk F13 g13 k13 (fn_ok F13 s__law_right hfree hcn A13 m__law_right w_right)) fun s sh e => shOf_ok rfl e
  have A15 : All P w K mg base G 15 T15 := A14.cons (fn_mk F14 g14 k14 (fn_ok F14 s__law_whole_right hfree hcn A14 m__law_whole_right w_whole)) fun s sh e => shOf_ok rfl e
  exact fn_ok (i := i_law) F15 s_law hfree hcn A15 m_law w_law
end K03
open PySem PySem.W PySem.Calls PyProof.Rows
theorem PySem.Challenge.cw_willdealt_k03_whole_pennies_hang_togethe_holds : PySem.Challenge.rw_willdealt_k03_whole_pennies_hang_togethe.Holds := by
  w_on; o_law
  refine HandSHeadRun.head_any (r := OpenLaw.row PySem.Challenge.rw_willdealt_k03_whole_pennies_hang_togethe) (q := view (OpenLaw.row PySem.Challenge.rw_willdealt_k03_whole_pennies_hang_togethe).prog [24]) (H := K03.hk) (ob := K03.ob) (M := 3000) (loose := ["WordError", "NoSum", "NoShares", "is_whole", "is_between", "MOST_AMOUNT", "MOST_SHARES", "divisor", "is_share", "are_shares", "parts_by", "split_by", "parted", "_law_pool", "_law_take", "_law_low", "_law_shares", "_law_between", "_law_whole_right", "_law_right"]) (d := HandSHeadRun.topDef (OpenLaw.row PySem.Challenge.rw_willdealt_k03_whole_pennies_hang_togethe).prog 24) (kwd := []) K03.ob_eq
    (by kernel_rfl) (fun s => by kernel_rfl) K03.run (by kernel_rfl) (by kernel_rfl) (by kernel_rfl) (by rfl) (by first | assumption | decide +kernel) (by decide +kernel) ⟨rfl, rfl, rfl, rfl, rfl, by decide +kernel⟩ ?hw ?hc
  case hw => w_witness2
  case hc =>
    refine Y.walkY (l := PySem.Challenge.rw_willdealt_k03_whole_pennies_hang_togethe) (n := 63) (k := 16) (x := "script") rfl (by decide) (by kernel_rfl) ⟨rfl, by decide, by decide⟩ ?F
    intro w mg fa h Yh G hmg0
    obtain ⟨K, KX, c⟩ := Yh
    have hmg : mg ("law" : PySem.Str) = some (.ref fa) := by
      have e : (HandSHeadRun.topDef (OpenLaw.row PySem.Challenge.rw_willdealt_k03_whole_pennies_hang_togethe).prog 24).name = ("law" : PySem.Str) := by kernel_rfl
      rw [← e]
      exact hmg0
    obtain ⟨fd, hb, hF⟩ := K03.facts (P := (PySem.Challenge.rw_willdealt_k03_whole_pennies_hang_togethe).prog) (w := w) KX G hmg c
    exact ⟨K, fd, KX, hb, hF⟩
