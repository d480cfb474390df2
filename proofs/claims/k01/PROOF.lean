import PyProof.Rows.All
import Wide.All
import OpenK.AllK
import Wide.FinOn
import HandS.Base
import HandS.Call
import HandS.List
import HandS.Comp
import HandS.Ends
import HandS.Dict
import HandS.Iter
import HandS.Text
import HandS.More
import HandS.Exc
import HandS.Words
import HandS.Defaults
import HandS.Flow
import HandS.Wide
import HandS.WideBits
import HandS.Conv
import HandS.Zip
import HandS.TupAny
import HandS.TupMul
import HandS.Style
import HandS.Rev
import HandS.FStr
import HandS.HeadHook2
import HandS.ExcOwn
import HandS.ExcInit
import HandS.CallSlots
import HandS.IsInst
import PyProof.WalksMore
import HandS.RaiseMore
import HandS.ClsMeth
import KE.KExcInit
import HandS.ExcIs
import HandS.ExcField
import HandS.HeadWalk
import KE.GoesEnum
import KE.GoesMore
import KE.GoesZip
import HandS.Small
import HandS.Codes
import HandS.HeadEnd
import HandS.HeadHook1
import KE.KStateDown
import HandS.Head0
import HandS.Head1
import HandS.Head2
import Lean
import PySem.Challenge.RW_willdealt_k01_names_of_any_kind
set_option Elab.async false
set_option linter.all false
set_option maxRecDepth 100000
set_option maxHeartbeats 0
/-! Data over the hand layer: immutable things as trees, what may change by permission. -/
namespace Y
open PySem PySem.Spec PyProof.Rows L2

/-- data. tup, lst, ins, dct as values never change; ref: an object that may change (what it holds stands in the heap part), or a def; scr: the script -/
inductive D where
  | non | bl (b : Bool) | int (i : Int) | str (x : Str) | ref (a : Addr)
  | tup (ds : List D) | lst (ds : List D)
  | ins (C : Str) (ns : List Str) (ds : List D)
  | dct (ks : List Key) (ds : List D)
  | scr (is : List Int)
  | exc (C : Str) (ns : List Str) (ds : List D)
  deriving Inhabited
/-- what may be changed: address and content (lst, ins, dct) -/
abbrev Hd := Addr → Option D
def hupd (h : Hd) (a : Addr) (d : D) : Hd := fun b => if b = a then some d else h b
def hdel (h : Hd) (a : Addr) : Hd := fun b => if b = a then none else h b
theorem hupd_same {h : Hd} {a : Addr} {d : D} : hupd h a d a = some d := if_pos rfl
theorem hupd_ne {h : Hd} {a b : Addr} {d : D} (e : b ≠ a) : hupd h a d b = h b := if_neg e
theorem hdel_same {h : Hd} {a : Addr} : hdel h a a = none := if_pos rfl
theorem hdel_ne {h : Hd} {a b : Addr} (e : b ≠ a) : hdel h a b = h b := if_neg e
theorem hupd_hupd {h : Hd} {a : Addr} {d e : D} : hupd (hupd h a d) a e = hupd h a e := by
  funext b; unfold hupd; split <;> rfl
theorem hdel_hupd {h : Hd} {a : Addr} {d : D} (e : h a = none) : hdel (hupd h a d) a = h := by
  funext b; unfold hdel hupd
  by_cases q : b = a
  · rw [if_pos q, q, e]
  · rw [if_neg q, if_neg q]

abbrev Kn (K : PySem.W.Frag) (a : Addr) (vs : List V) : Prop :=
  ∃ (o : Obj) (its : Array Value) (n : Nat), K.lookup a = some o ∧ o.cls = .type "tuple" ∧ o.data = .seq its n ∧ its.size ≤ sizeLine ∧ Vals vs its.toList
abbrev KnL (K : PySem.W.Frag) (a : Addr) (vs : List V) : Prop :=
  ∃ (o : Obj) (its : Array Value) (n : Nat), K.lookup a = some o ∧ o.cls = .type "list" ∧ o.dict = none ∧ o.data = .seq its n ∧ its.size ≤ sizeLine ∧ Vals vs its.toList
/-- the script: read alone -/
def ScrAt (K : PySem.W.Frag) (H : Hp) (h : Hd) (a : Addr) (vs : List V) : Prop := (Rd H a (.lst vs) ∧ h a = none) ∨ KnL K a vs
/-- an exception that was caught: its class, its dict -/
def xo (a : Addr) (cls : Value) (d : Option Addr) : HO := .ext fun h => ∃ oe vs, h.get? a = some oe ∧ Zc cls d oe ∧ oe.data = .fields vs
mutual
inductive Rep (K : PySem.W.Frag) (H : Hp) (h : Hd) : D → V → Prop
  | non : Rep K H h .non .non
  | bl (b : Bool) : Rep K H h (.bl b) (.bl b)
  | int (i : Int) : Rep K H h (.int i) (.int i)
  | str (x : Str) : Rep K H h (.str x) (.str x)
  | ref (a : Addr) : Rep K H h (.ref a) (.ref a)
  | tup {ds : List D} {vs : List V} {a : Addr} : H a = some (.tup vs) → h a = none → Reps K H h ds vs → Rep K H h (.tup ds) (.ref a)
  | tupK {ds : List D} {vs : List V} {a : Addr} : Kn K a vs → Reps K H h ds vs → Rep K H h (.tup ds) (.ref a)
  | lst {ds : List D} {vs : List V} {a : Addr} : H a = some (.lst vs) → h a = none → Reps K H h ds vs → Rep K H h (.lst ds) (.ref a)
  | ins {C : Str} {ns : List Str} {ds : List D} {vs : List V} {a dx : Addr} : H a = some (.ins (He.ga K C) dx (ns.zip vs)) → h a = none → ns.length = vs.length → Reps K H h ds vs → Rep K H h (.ins C ns ds) (.ref a)
  | dct {ks : List Key} {ds : List D} {vs : List V} {a : Addr} : H a = some (.dK (ks.zip vs)) → h a = none → ks.length = vs.length → Reps K H h ds vs → Rep K H h (.dct ks ds) (.ref a)
  | scr {is : List Int} {a : Addr} : ScrAt K H h a (is.map V.int) → Rep K H h (.scr is) (.ref a)
  | exc0 {C : Str} {a : Addr} : H a = some (xo a (.ref (He.ga K C)) none) → h a = none → Rep K H h (.exc C [] []) (.ref a)
  | exc1 {C : Str} {ns : List Str} {ds : List D} {vs : List V} {a dx : Addr} : H a = some (xo a (.ref (He.ga K C)) (some dx)) → h a = none → H dx = some (.xd (ns.zip vs)) → h dx = none → ns.length = vs.length → Reps K H h ds vs → Rep K H h (.exc C ns ds) (.ref a)
inductive Reps (K : PySem.W.Frag) (H : Hp) (h : Hd) : List D → List V → Prop
  | nil : Reps K H h [] []
  | cons {d : D} {ds : List D} {v : V} {vs : List V} : Rep K H h d v → Reps K H h ds vs → Reps K H h (d :: ds) (v :: vs)
end

/-- what is kept of what may not be changed -/
structure Kp (h : Hd) (H : Hp) (h' : Hd) (H' : Hp) : Prop where
  keep : ∀ a o, H a = some o → h a = none → H' a = some o ∧ h' a = none
/-- .. and of what is put away: none may touch it -/
structure Frm (h : Hd) (H : Hp) (h' : Hd) (H' : Hp) : Prop extends Kp h H h' H' where
  hid : ∀ a, h a = some .non → h' a = some .non ∧ ∀ o, H a = some o → H' a = some o
theorem Frm.refl {h : Hd} {H : Hp} : Frm h H h H := ⟨⟨fun _ _ e n => ⟨e, n⟩⟩, fun _ e => ⟨e, fun _ q => q⟩⟩
theorem Frm.trans {h h1 h2 : Hd} {H H1 H2 : Hp} (f : Frm h H h1 H1) (g : Frm h1 H1 h2 H2) : Frm h H h2 H2 :=
  ⟨⟨fun a o e n => let ⟨e1, n1⟩ := f.keep a o e n; g.keep a o e1 n1⟩, fun a e => let ⟨e1, k1⟩ := f.hid a e; let ⟨e2, k2⟩ := g.hid a e1; ⟨e2, fun o q => k2 o (k1 o q)⟩⟩

theorem ScrAt.sqL {K : PySem.W.Frag} {H : Hp} {h : Hd} {a : Addr} {vs : List V} (x : ScrAt K H h a vs) : SqL K H a vs := by
  rcases x with ⟨x, _⟩ | x
  · exact .inl x
  · exact .inr x
theorem ScrAt.kp {K : PySem.W.Frag} {H H' : Hp} {h h' : Hd} {a : Addr} {vs : List V} (f : Kp h H h' H') (x : ScrAt K H h a vs) : ScrAt K H' h' a vs := by
  rcases x with ⟨x | ⟨o, x⟩, n⟩ | x
  · exact .inl ⟨.inl (f.keep _ _ x n).1, (f.keep _ _ x n).2⟩
  · exact .inl ⟨.inr ⟨o, (f.keep _ _ x n).1⟩, (f.keep _ _ x n).2⟩
  · exact .inr x
section
variable {K : PySem.W.Frag} {H H' : Hp} {h h' : Hd}
mutual
theorem Rep.kp (f : Kp h H h' H') : ∀ {d : D} {v : V}, Rep K H h d v → Rep K H' h' d v
  | _, _, .non => .non
  | _, _, .bl b => .bl b
  | _, _, .int i => .int i
  | _, _, .str x => .str x
  | _, _, .ref a => .ref a
  | _, _, .tup e n r => .tup (f.keep _ _ e n).1 (f.keep _ _ e n).2 (Reps.kp f r)
  | _, _, .tupK k r => .tupK k (Reps.kp f r)
  | _, _, .lst e n r => .lst (f.keep _ _ e n).1 (f.keep _ _ e n).2 (Reps.kp f r)
  | _, _, .ins e n l r => .ins (f.keep _ _ e n).1 (f.keep _ _ e n).2 l (Reps.kp f r)
  | _, _, .dct e n l r => .dct (f.keep _ _ e n).1 (f.keep _ _ e n).2 l (Reps.kp f r)
  | _, _, .scr e => .scr (e.kp f)
  | _, _, .exc0 e n => .exc0 (f.keep _ _ e n).1 (f.keep _ _ e n).2
  | _, _, .exc1 e n e2 n2 l r => .exc1 (f.keep _ _ e n).1 (f.keep _ _ e n).2 (f.keep _ _ e2 n2).1 (f.keep _ _ e2 n2).2 l (Reps.kp f r)
theorem Reps.kp (f : Kp h H h' H') : ∀ {ds : List D} {vs : List V}, Reps K H h ds vs → Reps K H' h' ds vs
  | _, _, .nil => .nil
  | _, _, .cons r s => .cons (Rep.kp f r) (Reps.kp f s)
end
theorem ScrAt.frm {a : Addr} {vs : List V} (f : Frm h H h' H') (x : ScrAt K H h a vs) : ScrAt K H' h' a vs := x.kp f.toKp
theorem Rep.frm {d : D} {v : V} (f : Frm h H h' H') (r : Rep K H h d v) : Rep K H' h' d v := r.kp f.toKp
theorem Reps.frm {ds : List D} {vs : List V} (f : Frm h H h' H') (r : Reps K H h ds vs) : Reps K H' h' ds vs := r.kp f.toKp
theorem Reps.length : ∀ {ds : List D} {vs : List V}, Reps K H h ds vs → ds.length = vs.length
  | _, _, .nil => rfl
  | _, _, .cons _ s => congrArg (· + 1) (Reps.length s)
theorem Reps.get : ∀ {ds : List D} {vs : List V} {i : Nat} {d : D}, Reps K H h ds vs → ds[i]? = some d → ∃ v, vs[i]? = some v ∧ Rep K H h d v
  | _, _, _, _, .nil, e => by simp at e
  | _, _, 0, _, .cons r _, e => by simp at e; subst e; exact ⟨_, rfl, r⟩
  | _, _, i + 1, _, .cons _ s, e => by
    obtain ⟨v, h1, h2⟩ := Reps.get (i := i) s (by simpa using e)
    exact ⟨v, by simpa using h1, h2⟩
theorem Reps.append : ∀ {ds es : List D} {vs us : List V}, Reps K H h ds vs → Reps K H h es us → Reps K H h (ds ++ es) (vs ++ us)
  | _, _, _, _, .nil, s => s
  | _, _, _, _, .cons r t, s => .cons r (Reps.append t s)
theorem Reps.take : ∀ {ds : List D} {vs : List V} (n : Nat), Reps K H h ds vs → Reps K H h (ds.take n) (vs.take n)
  | _, _, 0, _ => .nil
  | _, _, _ + 1, .nil => .nil
  | _, _, n + 1, .cons r t => .cons r (Reps.take n t)
theorem Reps.drop : ∀ {ds : List D} {vs : List V} (n : Nat), Reps K H h ds vs → Reps K H h (ds.drop n) (vs.drop n)
  | _, _, 0, r => r
  | _, _, _ + 1, .nil => .nil
  | _, _, n + 1, .cons _ t => Reps.drop n t
theorem Reps.reverse {ds : List D} {vs : List V} (r : Reps K H h ds vs) : Reps K H h ds.reverse vs.reverse := by
  induction ds generalizing vs with
  | nil => cases r; exact .nil
  | cons d ds ih =>
    cases r with
    | cons r s => rw [List.reverse_cons, List.reverse_cons]; exact (ih s).append (.cons r .nil)
theorem Reps.set : ∀ {ds : List D} {vs : List V} (i : Nat) {d : D} {v : V}, Reps K H h ds vs → Rep K H h d v → Reps K H h (ds.set i d) (vs.set i v)
  | _, _, _, _, _, .nil, _ => .nil
  | _, _, 0, _, _, .cons _ t, r => .cons r t
  | _, _, i + 1, _, _, .cons q t, r => .cons q (Reps.set i t r)
theorem Reps.eraseIdx : ∀ {ds : List D} {vs : List V} (i : Nat), Reps K H h ds vs → Reps K H h (ds.eraseIdx i) (vs.eraseIdx i)
  | _, _, _, .nil => .nil
  | _, _, 0, .cons _ t => t
  | _, _, i + 1, .cons q t => .cons q (Reps.eraseIdx i t)
theorem Reps.dropLast : ∀ {ds : List D} {vs : List V}, Reps K H h ds vs → Reps K H h ds.dropLast vs.dropLast
  | _, _, .nil => .nil
  | _, _, .cons _ .nil => .nil
  | _, _, .cons r (.cons q t) => .cons r (Reps.dropLast (.cons q t))
theorem Reps.rep {ds : List D} {vs : List V} (r : Reps K H h ds vs) : ∀ k : Nat, Reps K H h (List.replicate k ds).flatten (List.replicate k vs).flatten
  | 0 => .nil
  | k + 1 => by rw [List.replicate_succ, List.replicate_succ, List.flatten_cons, List.flatten_cons]; exact r.append (Reps.rep r k)
end

/-- what may be changed is as the heap part says -/
def At (K : PySem.W.Frag) (H : Hp) (h : Hd) (a : Addr) : D → Prop
  | .lst ds => ∃ vs, H a = some (.lst vs) ∧ Reps K H h ds vs
  | .ins C ns ds => ∃ dx vs, H a = some (.ins (He.ga K C) dx (ns.zip vs)) ∧ ns.length = vs.length ∧ Reps K H h ds vs
  | .dct ks ds => ∃ vs, H a = some (.dK (ks.zip vs)) ∧ ks.length = vs.length ∧ Reps K H h ds vs
  | .non => ∃ o, H a = some o
  | _ => False
def HRel (K : PySem.W.Frag) (H : Hp) (h : Hd) : Prop := ∀ a d, h a = some d → At K H h a d
section
variable {K : PySem.W.Frag} {H H' : Hp} {h h' : Hd} {a : Addr} {d e : D} {o : HO}
theorem At.there (x : At K H h a d) : ∃ o, H a = some o := by
  cases d with
  | lst ds => obtain ⟨vs, e, _⟩ := x; exact ⟨_, e⟩
  | ins C ns ds => obtain ⟨dx, vs, e, _⟩ := x; exact ⟨_, e⟩
  | dct ks ds => obtain ⟨vs, e, _⟩ := x; exact ⟨_, e⟩
  | non => exact x
  | _ => exact False.elim x
theorem HRel.gone (r : HRel K H h) (n : H a = none) : h a = none := by
  cases e : h a with
  | none => rfl
  | some d => obtain ⟨o, q⟩ := (r a d e).there; rw [n] at q; cases q
/-- a new object that may be changed -/
theorem Frm.new (n : H a = none) (m : h a = none) : Frm h H (hupd h a d) (upd H a o) :=
  ⟨⟨fun b u e m => by
    have q : b ≠ a := fun z => by rw [z, n] at e; cases e
    exact ⟨by rw [upd_ne q]; exact e, by rw [hupd_ne q]; exact m⟩⟩, fun b e => by
    have q : b ≠ a := fun z => by rw [z, m] at e; cases e
    exact ⟨by rw [hupd_ne q]; exact e, fun u z => by rw [upd_ne q]; exact z⟩⟩
/-- a new object that may not -/
theorem Frm.newF (n : H a = none) : Frm h H h (upd H a o) :=
  ⟨⟨fun b u e m => by
    have q : b ≠ a := fun z => by rw [z, n] at e; cases e
    exact ⟨by rw [upd_ne q]; exact e, m⟩⟩, fun b e => ⟨e, fun u z => by
    have q : b ≠ a := fun y => by rw [y, n] at z; cases z
    rw [upd_ne q]; exact z⟩⟩
/-- a write -/
theorem Frm.put (n : h a = some e) (ne : e ≠ .non) : Frm h H (hupd h a d) (upd H a o) :=
  ⟨⟨fun b u z m => by
    have q : b ≠ a := fun y => by rw [y, n] at m; cases m
    exact ⟨by rw [upd_ne q]; exact z, by rw [hupd_ne q]; exact m⟩⟩, fun b z => by
    have q : b ≠ a := fun y => by rw [y, n] at z; cases z; exact ne rfl
    exact ⟨by rw [hupd_ne q]; exact z, fun u z => by rw [upd_ne q]; exact z⟩⟩
/-- a write at what is put away -/
theorem Kp.putN (n : h a = some e) : Kp h H h (upd H a o) :=
  ⟨fun b u z m => by
    have q : b ≠ a := fun y => by rw [y, n] at m; cases m
    exact ⟨by rw [upd_ne q]; exact z, m⟩⟩
/-- what is put away is taken out again -/
theorem Kp.out (n : h a = some e) : Kp h H (hupd h a d) H :=
  ⟨fun b u z m => by
    have q : b ≠ a := fun y => by rw [y, n] at m; cases m
    exact ⟨z, by rw [hupd_ne q]; exact m⟩⟩
/-- what may be changed is given up -/
theorem Kp.del : Kp h H (hdel h a) H :=
  ⟨fun b u z m => ⟨z, by
    by_cases q : b = a
    · rw [q]; exact hdel_same
    · rw [hdel_ne q]; exact m⟩⟩
theorem Frm.del (n : h a ≠ some .non) : Frm h H (hdel h a) H :=
  ⟨Kp.del, fun b e => by
    have q : b ≠ a := fun z => n (by rw [← z]; exact e)
    exact ⟨by rw [hdel_ne q]; exact e, fun u z => z⟩⟩
/-- the contents do not lean on what may be changed -/
theorem At.frm (f : ∀ ds vs, Reps K H h ds vs → Reps K H' h' ds vs) (k : ∀ o, H a = Option.some o → H' a = Option.some o) (x : At K H h a d) : At K H' h' a d := by
  cases d with
  | lst ds => obtain ⟨vs, e, r⟩ := x; exact ⟨vs, k _ e, f _ _ r⟩
  | ins C ns ds => obtain ⟨dx, vs, e, l, r⟩ := x; exact ⟨dx, vs, k _ e, l, f _ _ r⟩
  | dct ks ds => obtain ⟨vs, e, l, r⟩ := x; exact ⟨vs, k _ e, l, f _ _ r⟩
  | non => obtain ⟨o, e⟩ := x; exact ⟨o, k _ e⟩
  | _ => exact False.elim x
theorem HRel.new (r : HRel K H h) (n : H a = none) (x : At K (upd H a o) (hupd h a d) a d) : HRel K (upd H a o) (hupd h a d) := fun b e q => by
  by_cases z : b = a
  · subst z; rw [hupd_same] at q; cases q; exact x
  · rw [hupd_ne z] at q
    exact (r b e q).frm (fun _ _ y => y.frm (Frm.new n (r.gone n))) fun u y => by rw [upd_ne z]; exact y
theorem HRel.newF (r : HRel K H h) (n : H a = none) : HRel K (upd H a o) h := fun b e q => by
  refine (r b e q).frm (fun _ _ y => y.frm (Frm.newF n)) fun u y => ?_
  have z : b ≠ a := fun z => by rw [z, n] at y; cases y
  rw [upd_ne z]; exact y
theorem HRel.put (r : HRel K H h) (n : h a = some e) (ne : e ≠ .non) (x : At K (upd H a o) (hupd h a d) a d) : HRel K (upd H a o) (hupd h a d) := fun b u q => by
  by_cases z : b = a
  · subst z; rw [hupd_same] at q; cases q; exact x
  · rw [hupd_ne z] at q
    exact (r b u q).frm (fun _ _ y => y.frm (Frm.put n ne)) fun u y => by rw [upd_ne z]; exact y
theorem HRel.del (r : HRel K H h) : HRel K H (hdel h a) := fun b e q => by
  by_cases z : b = a
  · rw [z, hdel_same] at q; cases q
  · rw [hdel_ne z] at q
    exact (r b e q).frm (fun _ _ y => y.kp Kp.del) fun u y => y
/-- a write at what is put away -/
theorem HRel.putN (r : HRel K H h) (n : h a = some .non) : HRel K (upd H a o) h := fun b u q => by
  by_cases z : b = a
  · subst z; rw [n] at q; cases q; exact ⟨o, upd_same⟩
  · exact (r b u q).frm (fun _ _ y => y.kp (Kp.putN n)) fun u y => by rw [upd_ne z]; exact y
/-- what is put away is taken out again -/
theorem HRel.out (r : HRel K H h) (n : h a = some .non) (x : At K H (hupd h a d) a d) : HRel K H (hupd h a d) := fun b u q => by
  by_cases z : b = a
  · subst z; rw [hupd_same] at q; cases q; exact x
  · rw [hupd_ne z] at q
    exact (r b u q).frm (fun _ _ y => y.kp (Kp.out n)) fun u y => y
end

/-- the frame's names -/
abbrev DEnv := List (Option D)
structure RelE (K : PySem.W.Frag) (H : Hp) (h : Hd) (ρ : DEnv) (σ : L2.St) : Prop where
  len : ρ.length = σ.length
  get : ∀ (i : Nat) (d : D), ρ[i]? = some (some d) → ∃ v, σ[i]? = some (some v) ∧ Rep K H h d v
theorem RelE.kp {K : PySem.W.Frag} {H H' : Hp} {h h' : Hd} {ρ : DEnv} {σ : L2.St} (r : RelE K H h ρ σ) (f : Kp h H h' H') : RelE K H' h' ρ σ :=
  ⟨r.len, fun i d e => let ⟨v, e1, r1⟩ := r.get i d e; ⟨v, e1, r1.kp f⟩⟩
theorem RelE.frm {K : PySem.W.Frag} {H H' : Hp} {h h' : Hd} {ρ : DEnv} {σ : L2.St} (r : RelE K H h ρ σ) (f : Frm h H h' H') : RelE K H' h' ρ σ := r.kp f.toKp
theorem RelE.set {K : PySem.W.Frag} {H : Hp} {h : Hd} {ρ : DEnv} {σ : L2.St} {d : D} {v : V} (r : RelE K H h ρ σ) (q : Rep K H h d v) (i : Nat) : RelE K H h (ρ.set i (some d)) (σ.set i (some v)) := by
  refine ⟨by simp [r.len], fun j e z => ?_⟩
  by_cases hj : i = j
  · subst hj
    by_cases hi : i < ρ.length
    · rw [List.getElem?_set_self hi] at z; cases z
      exact ⟨v, by rw [List.getElem?_set_self (by rw [← r.len]; exact hi)], q⟩
    · rw [List.getElem?_eq_none (by simp; omega)] at z; cases z
  · rw [List.getElem?_set_ne hj] at z
    obtain ⟨u, e1, r1⟩ := r.get j e z
    exact ⟨u, by rw [List.getElem?_set_ne hj]; exact e1, r1⟩

/-- an exception: its class by name, its fields -/
structure XV where
  cls : Str
  ns : List Str
  ds : List D
abbrev QD := D → Hd → Prop
abbrev QX := XV → Hd → Prop
abbrev TD := DEnv → Hd → QD → QX → Prop
abbrev TDs := DEnv → Hd → (List D → Hd → Prop) → QX → Prop
abbrev TDt := DEnv → Hd → (Bool → Hd → Prop) → QX → Prop
structure RepX (K : PySem.W.Frag) (H : Hp) (h : Hd) (x : XV) (cls : Value) (dx : Option Addr) : Prop where
  cls : cls = .ref (He.ga K x.cls)
  dx : (x.ns = [] ∧ x.ds = [] ∧ dx = none) ∨ ∃ d vs, dx = some d ∧ H d = some (.xd (x.ns.zip vs)) ∧ h d = none ∧ x.ns.length = vs.length ∧ Reps K H h x.ds vs
/-- what is wanted of data is what is wanted of values, from here on -/
def Cl (K : PySem.W.Frag) (h0 : Hd) (H0 : Hp) (Qd : QD) (Q : VK) : Prop := ∀ d h v H, Frm h0 H0 h H → HRel K H h → Rep K H h d v → Qd d h → Q v H
def Cls_ (K : PySem.W.Frag) (h0 : Hd) (H0 : Hp) (Qd : List D → Hd → Prop) (Q : List V → Hp → Prop) : Prop := ∀ ds h vs H, Frm h0 H0 h H → HRel K H h → Reps K H h ds vs → Qd ds h → Q vs H
def Clt (K : PySem.W.Frag) (h0 : Hd) (H0 : Hp) (Qd : Bool → Hd → Prop) (Q : Bool → Hp → Prop) : Prop := ∀ b h H, Frm h0 H0 h H → HRel K H h → Qd b h → Q b H
def ClX (K : PySem.W.Frag) (h0 : Hd) (H0 : Hp) (Ed : QX) (E : XK) : Prop := ∀ x h cls dx H, Frm h0 H0 h H → HRel K H h → RepX K H h x cls dx → Ed x h → E cls dx H
section
variable {K : PySem.W.Frag} {h0 h1 : Hd} {H0 H1 : Hp}
theorem Cl.frm {Qd : QD} {Q : VK} (c : Cl K h0 H0 Qd Q) (f : Frm h0 H0 h1 H1) : Cl K h1 H1 Qd Q := fun d h v H g => c d h v H (f.trans g)
theorem Clt.frm {Qd : Bool → Hd → Prop} {Q : Bool → Hp → Prop} (c : Clt K h0 H0 Qd Q) (f : Frm h0 H0 h1 H1) : Clt K h1 H1 Qd Q := fun d h H g => c d h H (f.trans g)
theorem Cls_.frm {Qd : List D → Hd → Prop} {Q : List V → Hp → Prop} (c : Cls_ K h0 H0 Qd Q) (f : Frm h0 H0 h1 H1) : Cls_ K h1 H1 Qd Q := fun d h v H g => c d h v H (f.trans g)
theorem ClX.frm {Ed : QX} {E : XK} (c : ClX K h0 H0 Ed E) (f : Frm h0 H0 h1 H1) : ClX K h1 H1 Ed E := fun x h k d H g => c x h k d H (f.trans g)
end
abbrev XKs := L2.St → XK
def tD (K : PySem.W.Frag) (E : XKs) (T : TD) : TE := fun σ H Q => ∃ ρ h Qd Ed, RelE K H h ρ σ ∧ HRel K H h ∧ T ρ h Qd Ed ∧ Cl K h H Qd Q ∧ ClX K h H Ed (E σ)
def tDs (K : PySem.W.Frag) (E : XKs) (T : TDs) : TA := fun σ H Q => ∃ ρ h Qd Ed, RelE K H h ρ σ ∧ HRel K H h ∧ T ρ h Qd Ed ∧ Cls_ K h H Qd Q ∧ ClX K h H Ed (E σ)
def tDt (K : PySem.W.Frag) (E : XKs) (T : TDt) : TT := fun σ H Q => ∃ ρ h Qd Ed, RelE K H h ρ σ ∧ HRel K H h ∧ T ρ h Qd Ed ∧ Clt K h H Qd Q ∧ ClX K h H Ed (E σ)

theorem _root_.L2.PE.weak {X : Cx} {e : Expr} {t t' : TE} (p : PE X e t) (w : ∀ σ H Q, t' σ H Q → t σ H Q) : PE X e t' := ⟨fun pins s σ H Q I h => p.run pins s σ H Q I (w _ _ _ h)⟩
theorem _root_.L2.PT.weak {X : Cx} {e : Expr} {t t' : TT} (p : PT X e t) (w : ∀ σ H Q, t' σ H Q → t σ H Q) : PT X e t' := ⟨fun pins s σ H Q I h => p.run pins s σ H Q I (w _ _ _ h)⟩
theorem _root_.L2.PW.weak {X : Cx} {e : Expr} {t t' : TT} (p : PW X e t) (w : ∀ σ H Q, t' σ H Q → t σ H Q) : PW X e t' := ⟨fun wh pins s σ H Q I h => p.run wh pins s σ H Q I (w _ _ _ h)⟩
theorem _root_.L2.PA.weak {X : Cx} {es : List Expr} {t t' : TA} (p : PA X es t) (w : ∀ σ H Q, t' σ H Q → t σ H Q) : PA X es t' := ⟨fun pos pins s σ H Q I h => p.run pos pins s σ H Q I (w _ _ _ h)⟩
theorem _root_.L2.PS.weak {X : Cx} {e : Stmt} {t t' : TS} (p : PS X e t) (w : ∀ D σ H, t' D σ H → t D σ H) : PS X e t' := ⟨fun pins s σ H D I h => p.run pins s σ H D I (w _ _ _ h)⟩
theorem _root_.L2.PSs.weak {X : Cx} {e : List Stmt} {t t' : TS} (p : PSs X e t) (w : ∀ D σ H, t' D σ H → t D σ H) : PSs X e t' := ⟨fun pins s σ H D I h => p.run pins s σ H D I (w _ _ _ h)⟩

/-! ### operations by data -/
abbrev RD1 := D → Hd → QD → Prop
abbrev RD2 := D → D → Hd → QD → Prop
abbrev RDs := List D → Hd → QD → Prop
def lift1 (K : PySem.W.Frag) (r : RD1) : V → Hp → VK → Prop := fun u H Q => ∃ h x Qd, HRel K H h ∧ Rep K H h x u ∧ r x h Qd ∧ Cl K h H Qd Q
def lift2 (K : PySem.W.Frag) (r : RD2) : R2 := fun u v H Q => ∃ h x y Qd, HRel K H h ∧ Rep K H h x u ∧ Rep K H h y v ∧ r x y h Qd ∧ Cl K h H Qd Q
def liftS (K : PySem.W.Frag) (r : RDs) : List V → Hp → VK → Prop := fun us H Q => ∃ h xs Qd, HRel K H h ∧ Reps K H h xs us ∧ r xs h Qd ∧ Cl K h H Qd Q
def liftM (K : PySem.W.Frag) (r : D → List D → Hd → QD → Prop) : V → List V → Hp → VK → Prop := fun u us H Q => ∃ h x xs Qd, HRel K H h ∧ Rep K H h x u ∧ Reps K H h xs us ∧ r x xs h Qd ∧ Cl K h H Qd Q
def bind1 (T : TD) (r : RD1) : TD := fun ρ h Q E => T ρ h (fun x h1 => r x h1 Q) E
def bind2 (T U : TD) (r : RD2) : TD := fun ρ h Q E => T ρ h (fun x h1 => U ρ h1 (fun y h2 => r x y h2 Q) E) E
def bindS (T : TDs) (r : RDs) : TD := fun ρ h Q E => T ρ h (fun xs h1 => r xs h1 Q) E
def bindM (T : TD) (U : TDs) (r : D → List D → Hd → QD → Prop) : TD := fun ρ h Q E => T ρ h (fun x h1 => U ρ h1 (fun xs h2 => r x xs h2 Q) E) E
section
variable {K : PySem.W.Frag} {E : XKs} {T U : TD} {Ts : TDs}
theorem un_weak {r : RD1} (σ : L2.St) (H : Hp) (Q : VK) (x : tD K E (bind1 T r) σ H Q) : tUn (lift1 K r) (tD K E T) σ H Q := by
  obtain ⟨ρ, h, Qd, Ed, re, hr, t, c, cx⟩ := x
  refine ⟨ρ, h, _, Ed, re, hr, t, fun d1 h1 v1 H1 f1 hr1 r1 q1 => ?_, cx⟩
  exact ⟨h1, d1, Qd, hr1, r1, q1, c.frm f1⟩
theorem op_weak {r : RD2} (σ : L2.St) (H : Hp) (Q : VK) (x : tD K E (bind2 T U r) σ H Q) : tOp (lift2 K r) (tD K E T) (tD K E U) σ H Q := by
  obtain ⟨ρ, h, Qd, Ed, re, hr, t, c, cx⟩ := x
  refine ⟨ρ, h, _, Ed, re, hr, t, fun d1 h1 v1 H1 f1 hr1 r1 q1 => ?_, cx⟩
  refine ⟨ρ, h1, _, Ed, re.frm f1, hr1, q1, fun d2 h2 v2 H2 f2 hr2 r2 q2 => ?_, cx.frm f1⟩
  exact ⟨h2, d1, d2, Qd, hr2, r1.frm f2, r2, q2, c.frm (f1.trans f2)⟩
theorem cb_weak {r : RDs} (σ : L2.St) (H : Hp) (Q : VK) (x : tD K E (bindS Ts r) σ H Q) : tCB (liftS K r) (tDs K E Ts) σ H Q := by
  obtain ⟨ρ, h, Qd, Ed, re, hr, t, c, cx⟩ := x
  refine ⟨ρ, h, _, Ed, re, hr, t, fun d1 h1 v1 H1 f1 hr1 r1 q1 => ?_, cx⟩
  exact ⟨h1, d1, Qd, hr1, r1, q1, c.frm f1⟩
theorem un_ty {r : V → Hp → VK → Prop} (σ : L2.St) (H : Hp) (Q : VK) (x : tD K E T σ H fun v H1 => r v H1 Q) : tUn r (tD K E T) σ H Q := x
end
end Y
namespace Y
open PySem PySem.Spec PyProof.Rows L2

/-! ### what data hold -/
section
variable {K : PySem.W.Frag} {H : Hp} {h : Hd}
theorem Rep.sqT {ds : List D} {v : V} (r : Rep K H h (.tup ds) v) : ∃ a vs, v = .ref a ∧ SqT K H a vs ∧ Reps K H h ds vs := by
  cases r with
  | tup e n r => exact ⟨_, _, rfl, .inl (.inl e), r⟩
  | tupK k r => exact ⟨_, _, rfl, .inr k, r⟩
/-- a list, by its items: a value, or one that may be changed -/
@[reducible] def seqL (h : Hd) : D → Option (List D)
  | .lst ds => some ds
  | .ref a => match h a with
    | some (.lst ds) => some ds
    | _ => none
  | _ => none
theorem seqL_ref {a : Addr} {ds : List D} (e : seqL h (.ref a) = some ds) : h a = some (.lst ds) := by
  unfold seqL at e
  dsimp only at e
  cases q : h a with
  | none => rw [q] at e; cases e
  | some d =>
    rw [q] at e
    cases d with
    | lst es => cases e; rfl
    | _ => cases e
theorem seqL_ok (hr : HRel K H h) {d : D} {v : V} {ds : List D} (r : Rep K H h d v) (e : seqL h d = some ds) : ∃ a vs, v = .ref a ∧ H a = some (.lst vs) ∧ Reps K H h ds vs := by
  cases r with
  | lst e' n r => cases e; exact ⟨_, _, rfl, e', r⟩
  | ref a =>
    obtain ⟨vs, e1, r1⟩ := hr a _ (seqL_ref e)
    exact ⟨_, _, rfl, e1, r1⟩
  | _ => cases e
/-- a list or a tuple, read -/
@[reducible] def seqA (h : Hd) : D → Option (List D)
  | .tup ds => some ds
  | .scr is => some (is.map D.int)
  | d => seqL h d
theorem Reps.ints : ∀ is : List Int, Reps K H h (is.map D.int) (is.map V.int)
  | [] => .nil
  | i :: is => .cons (.int i) (Reps.ints is)
theorem seqA_ok (hr : HRel K H h) {d : D} {v : V} {ds : List D} (r : Rep K H h d v) (e : seqA h d = some ds) : ∃ a vs, v = .ref a ∧ (SqL K H a vs ∨ SqT K H a vs) ∧ Reps K H h ds vs := by
  cases r with
  | tup e' n r => cases e; exact ⟨_, _, rfl, .inr (.inl (.inl e')), r⟩
  | tupK k r => cases e; exact ⟨_, _, rfl, .inr (.inr k), r⟩
  | scr e' => cases e; exact ⟨_, _, rfl, .inl e'.sqL, Reps.ints _⟩
  | lst e' n r => cases e; exact ⟨_, _, rfl, .inl (.inl (.inl e')), r⟩
  | ref a =>
    obtain ⟨a, vs, e1, e2, r2⟩ := seqL_ok hr (.ref a) (show seqL h (.ref a) = some ds from e)
    exact ⟨a, vs, e1, .inl (.inl (.inl e2)), r2⟩
  | _ => cases e
theorem Reps.toInts : ∀ {is : List Int} {vs : List V}, Reps K H h (is.map D.int) vs → vs = is.map V.int
  | [], _, .nil => rfl
  | i :: is, _, .cons r s => by
    cases r
    rw [Reps.toInts s]; rfl
theorem Reps.toBls : ∀ {bs : List Bool} {vs : List V}, Reps K H h (bs.map D.bl) vs → vs = bs.map V.bl
  | [], _, .nil => rfl
  | b :: bs, _, .cons r s => by
    cases r
    rw [Reps.toBls s]; rfl
theorem Reps.toStrs : ∀ {bs : List Str} {vs : List V}, Reps K H h (bs.map D.str) vs → vs = bs.map V.str
  | [], _, .nil => rfl
  | b :: bs, _, .cons r s => by
    cases r
    rw [Reps.toStrs s]; rfl
theorem Reps.strs : ∀ xs : List Str, Reps K H h (xs.map D.str) (xs.map V.str)
  | [] => .nil
  | x :: xs => .cons (.str x) (Reps.strs xs)
end
/-- all ints, bools, texts -/
def intsOf : List D → Option (List Int)
  | [] => some []
  | .int i :: r => (intsOf r).map (i :: ·)
  | _ :: _ => none
def blsOf : List D → Option (List Bool)
  | [] => some []
  | .bl i :: r => (blsOf r).map (i :: ·)
  | _ :: _ => none
def strsOf : List D → Option (List Str)
  | [] => some []
  | .str i :: r => (strsOf r).map (i :: ·)
  | _ :: _ => none
theorem intsOf_eq : ∀ {ds : List D} {is : List Int}, intsOf ds = some is → ds = is.map D.int
  | [], _, e => by cases e; rfl
  | d :: r, is, e => by
    cases d with
    | int i =>
      cases q : intsOf r with
      | none => rw [intsOf, q] at e; cases e
      | some js => rw [intsOf, q] at e; cases e; rw [intsOf_eq q]; rfl
    | _ => cases e
theorem blsOf_eq : ∀ {ds : List D} {is : List Bool}, blsOf ds = some is → ds = is.map D.bl
  | [], _, e => by cases e; rfl
  | d :: r, is, e => by
    cases d with
    | bl i =>
      cases q : blsOf r with
      | none => rw [blsOf, q] at e; cases e
      | some js => rw [blsOf, q] at e; cases e; rw [blsOf_eq q]; rfl
    | _ => cases e
theorem strsOf_eq : ∀ {ds : List D} {is : List Str}, strsOf ds = some is → ds = is.map D.str
  | [], _, e => by cases e; rfl
  | d :: r, is, e => by
    cases d with
    | str i =>
      cases q : strsOf r with
      | none => rw [strsOf, q] at e; cases e
      | some js => rw [strsOf, q] at e; cases e; rw [strsOf_eq q]; rfl
    | _ => cases e
@[simp] theorem intsOf_map : ∀ is : List Int, intsOf (is.map D.int) = some is
  | [] => rfl
  | i :: is => by rw [List.map_cons, intsOf, intsOf_map is]; rfl
@[simp] theorem blsOf_map : ∀ is : List Bool, blsOf (is.map D.bl) = some is
  | [] => rfl
  | i :: is => by rw [List.map_cons, blsOf, blsOf_map is]; rfl
@[simp] theorem strsOf_map : ∀ is : List Str, strsOf (is.map D.str) = some is
  | [] => rfl
  | i :: is => by rw [List.map_cons, strsOf, strsOf_map is]; rfl

/-! ### + - * // % ** -/
/-- what a product of ints asks -/
def MulOk (i j : Int) : Prop := CMul i j ∨ CMulX i j
def DivOk (j : Int) : Prop := 0 < j ∧ j.natAbs.log2 < 9000
/-- a new list, as a value; a new tuple -/
@[reducible] def newL (ds : List D) (h : Hd) (Q : QD) : Prop := ds.length ≤ sizeLine ∧ Q (.lst ds) h
@[reducible] def newT (ds : List D) (h : Hd) (Q : QD) : Prop := ds.length ≤ sizeLine ∧ Q (.tup ds) h
@[reducible] def addR : RD2 := fun x y h Q => match x, y with
  | .int i, .int j => Q (.int (i + j)) h
  | .str i, .str j => i.length + j.length ≤ sizeLine ∧ Q (.str (i ++ j)) h
  | .tup i, .tup j => newT (i ++ j) h Q
  | x, y => match seqL h x, seqL h y with
    | some i, some j => newL (i ++ j) h Q
    | _, _ => False
@[reducible] def subR : RD2 := fun x y h Q => match x, y with
  | .int i, .int j => Q (.int (i - j)) h
  | _, _ => False
@[reducible] def mulR : RD2 := fun x y h Q => match x, y with
  | .int i, .int j => MulOk i j ∧ Q (.int (i * j)) h
  | x, .int k => match seqL h x with
    | some ds => 0 ≤ k ∧ k < 2 ^ 20 ∧ newL (List.replicate k.toNat ds).flatten h Q
    | none => False
  | _, _ => False
@[reducible] def fdivR : RD2 := fun x y h Q => match x, y with
  | .int i, .int j => DivOk j ∧ Q (.int (i / j)) h
  | _, _ => False
@[reducible] def modR : RD2 := fun x y h Q => match x, y with
  | .int i, .int j => 0 < j ∧ Q (.int (i % j)) h
  | _, _ => False
@[reducible] def powR : RD2 := fun x y h Q => match x, y with
  | .int i, .int j => CPow i j ∧ Q (.int (i ^ j.toNat)) h
  | _, _ => False
section
variable {X : Cx}
/-- a result that is a plain value -/
theorem Cl.here {K : PySem.W.Frag} {h : Hd} {H : Hp} {Qd : QD} {Q : VK} {d : D} {v : V} (c : Cl K h H Qd Q) (hr : HRel K H h) (r : Rep K H h d v) (q : Qd d h) : Q v H := c d h v H Frm.refl hr r q
/-- a result that is a new object, a value -/
theorem Cl.fresh {K : PySem.W.Frag} {h : Hd} {H : Hp} {Qd : QD} {Q : VK} {d : D} {o : HO} {p : Addr} (c : Cl K h H Qd Q) (hr : HRel K H h) (n : H p = none) (r : Rep K (upd H p o) h d (.ref p)) (q : Qd d h) : Q (.ref p) (upd H p o) :=
  c d h _ _ (Frm.newF n) (hr.newF n) r q
theorem Reps.newF {K : PySem.W.Frag} {h : Hd} {H : Hp} {ds : List D} {vs : List V} {o : HO} {p : Addr} (r : Reps K H h ds vs) (n : H p = none) : Reps K (upd H p o) h ds vs := r.frm (Frm.newF n)
theorem Rep.newL {K : PySem.W.Frag} {h : Hd} {H : Hp} {ds : List D} {vs : List V} {p : Addr} (hr : HRel K H h) (r : Reps K H h ds vs) (n : H p = none) : Rep K (upd H p (.lst vs)) h (.lst ds) (.ref p) := .lst upd_same (hr.gone n) (r.newF n)
theorem Rep.newT {K : PySem.W.Frag} {h : Hd} {H : Hp} {ds : List D} {vs : List V} {p : Addr} (hr : HRel K H h) (r : Reps K H h ds vs) (n : H p = none) : Rep K (upd H p (.tup vs)) h (.tup ds) (.ref p) := .tup upd_same (hr.gone n) (r.newF n)

theorem do_add : OpR X (binaryOp .Add) (lift2 X.K addR) := by
  intro pins s σ H u v v' u' Q I ru rv hx
  obtain ⟨h, x, y, Qd, hr, rx, ry, q, c⟩ := hx
  have lists : ∀ {i j : List D}, seqL h x = some i → seqL h y = some j → newL (i ++ j) h Qd → wpAny (model X.prog X.w) X.A (binaryOp .Add v' u') (EP X pins σ Q) X.xe s := fun {i j} e1 e2 q => by
    obtain ⟨a, vs, rfl, ha, ra⟩ := seqL_ok hr rx e1
    obtain ⟨b, us, rfl, hb, rb⟩ := seqL_ok hr ry e2
    obtain ⟨z, q⟩ := q
    refine op_cat pins s σ H _ _ _ _ Q I ru rv ⟨a, b, vs, us, rfl, rfl, ha, hb, by rw [← ra.length, ← rb.length, ← List.length_append]; exact z, fun p n => ?_⟩
    exact c.fresh hr n (Rep.newL hr (ra.append rb) n) q
  have dflt : (match seqL h x, seqL h y with | some i, some j => newL (i ++ j) h Qd | _, _ => False) → wpAny (model X.prog X.w) X.A (binaryOp .Add v' u') (EP X pins σ Q) X.xe s := fun q => by
    cases e1 : seqL h x with
    | none => rw [e1] at q; exact q.elim
    | some i =>
      cases e2 : seqL h y with
      | none => rw [e1, e2] at q; exact q.elim
      | some j => rw [e1, e2] at q; exact lists e1 e2 q
  cases x with
  | int i =>
    cases y with
    | int j =>
      cases rx; cases ry
      exact op_add pins s σ H _ _ _ _ Q I ru rv ⟨i, j, rfl, rfl, c.here hr (.int _) q⟩
    | _ => exact dflt q
  | str i =>
    cases y with
    | str j =>
      cases rx; cases ry
      exact op_add_str pins s σ H _ _ _ _ Q I ru rv ⟨i, j, rfl, rfl, q.1, c.here hr (.str _) q.2⟩
    | _ => exact dflt q
  | tup i =>
    cases y with
    | tup j =>
      obtain ⟨a, vs, rfl, ha, ra⟩ := rx.sqT
      obtain ⟨b, us, rfl, hb, rb⟩ := ry.sqT
      obtain ⟨z, q⟩ := q
      refine op_catA pins s σ H _ _ _ _ Q I ru rv ⟨a, b, vs, us, rfl, rfl, ha, hb, by rw [← ra.length, ← rb.length, ← List.length_append]; exact z, fun e => ?_, fun _ e => ?_, fun _ _ p n => ?_⟩
      · have ei : i = [] := List.length_eq_zero_iff.mp (by rw [ra.length, e]; rfl)
        subst ei
        exact c.here hr ry q
      · have ej : j = [] := List.length_eq_zero_iff.mp (by rw [rb.length, e]; rfl)
        subst ej
        rw [List.append_nil] at q
        exact c.here hr rx q
      · exact c.fresh hr n (Rep.newT hr (ra.append rb) n) q
    | _ => exact dflt q
  | _ => exact dflt q
theorem do_sub : OpR X (binaryOp .Sub) (lift2 X.K subR) := by
  intro pins s σ H u v v' u' Q I ru rv hx
  obtain ⟨h, x, y, Qd, hr, rx, ry, q, c⟩ := hx
  cases x with
  | int i =>
    cases y with
    | int j =>
      cases rx; cases ry
      exact op_sub pins s σ H _ _ _ _ Q I ru rv ⟨i, j, rfl, rfl, c.here hr (.int _) q⟩
    | _ => exact q.elim
  | _ => exact q.elim
theorem MulOk.ok {i j : Int} (h : MulOk i j) : IntMulOk i j := by
  rcases h with h | h
  · exact h.ok
  · exact h.ok
theorem op_mulA : OpR X (binaryOp .Mult) (rI MulOk fun i j => .int (i * j)) := opI fun _ _ _ _ _ _ _ hc q => mul_int q hc.ok
theorem do_mul : OpR X (binaryOp .Mult) (lift2 X.K mulR) := by
  intro pins s σ H u v v' u' Q I ru rv hx
  obtain ⟨h, x, y, Qd, hr, rx, ry, q, c⟩ := hx
  have dflt : ∀ k, y = .int k → (match seqL h x with | some ds => 0 ≤ k ∧ k < 2 ^ 20 ∧ newL (List.replicate k.toNat ds).flatten h Qd | none => False) → wpAny (model X.prog X.w) X.A (binaryOp .Mult v' u') (EP X pins σ Q) X.xe s := fun k ey q2 => by
    clear q
    subst ey
    cases ry
    cases e : seqL h x with
    | none => rw [e] at q2; exact q2.elim
    | some ds =>
      rw [e] at q2
      obtain ⟨k0, k1, z, q⟩ := q2
      obtain ⟨a, vs, rfl, ha, ra⟩ := seqL_ok hr rx e
      refine op_rep pins s σ H _ _ _ _ Q I ru rv ⟨a, k, vs, rfl, rfl, ha, by omega, by omega, ?_, fun p n => ?_⟩
      · have e1 := (ra.rep k.toNat).length
        have e2 : (List.replicate k.toNat vs).flatten.length = k.toNat * vs.length := by simp
        rw [e2] at e1
        rw [Nat.mul_comm, ← e1]; exact z
      · exact c.fresh hr n (Rep.newL hr (ra.rep k.toNat) n) q
  cases x with
  | int i =>
    cases y with
    | int j =>
      cases rx; cases ry
      exact op_mulA pins s σ H _ _ _ _ Q I ru rv ⟨i, j, rfl, rfl, q.1, c.here hr (.int _) q.2⟩
    | _ => exact q.elim
  | _ =>
    cases y with
    | int j => exact dflt j rfl q
    | _ => exact q.elim
theorem do_fdiv : OpR X (binaryOp .FloorDiv) (lift2 X.K fdivR) := by
  intro pins s σ H u v v' u' Q I ru rv hx
  obtain ⟨h, x, y, Qd, hr, rx, ry, q, c⟩ := hx
  cases x with
  | int i =>
    cases y with
    | int j =>
      cases rx; cases ry
      exact op_fdivW pins s σ H _ _ _ _ Q I ru rv ⟨i, j, rfl, rfl, q.1, c.here hr (.int _) q.2⟩
    | _ => exact q.elim
  | _ => exact q.elim
theorem do_mod : OpR X (binaryOp .Mod) (lift2 X.K modR) := by
  intro pins s σ H u v v' u' Q I ru rv hx
  obtain ⟨h, x, y, Qd, hr, rx, ry, q, c⟩ := hx
  cases x with
  | int i =>
    cases y with
    | int j =>
      cases rx; cases ry
      exact op_mod pins s σ H _ _ _ _ Q I ru rv ⟨i, j, rfl, rfl, q.1, c.here hr (.int _) q.2⟩
    | _ => exact q.elim
  | _ => exact q.elim
theorem do_pow : OpR X (binaryOp .Pow) (lift2 X.K powR) := by
  intro pins s σ H u v v' u' Q I ru rv hx
  obtain ⟨h, x, y, Qd, hr, rx, ry, q, c⟩ := hx
  cases x with
  | int i =>
    cases y with
    | int j =>
      cases rx; cases ry
      exact op_pow pins s σ H _ _ _ _ Q I ru rv ⟨i, j, rfl, rfl, q.1, c.here hr (.int _) q.2⟩
    | _ => exact q.elim
  | _ => exact q.elim
end
end Y
namespace Y
open PySem PySem.Spec PyProof.Rows L2

/-! ### == != -/
/-- what an object that may be changed holds -/
@[reducible] def deref (h : Hd) : D → D
  | .ref a => match h a with
    | some (.lst ds) => .lst ds
    | _ => .ref a
  | d => d
mutual
def toPy : D → Option PyData
  | .non => some .none
  | .bl b => some (.bool b)
  | .int i => some (.int i)
  | .str x => some (.str x)
  | .tup ds => match toPys ds with
    | some ps => some (.tuple ps)
    | none => none
  | .lst ds => match toPys ds with
    | some ps => some (.list ps)
    | none => none
  | .ref _ => none
  | .ins _ _ _ => none
  | .dct _ _ => none
  | .scr _ => none
  | .exc _ _ _ => none
def toPys : List D → Option (List PyData)
  | [] => some []
  | d :: ds => match toPy d, toPys ds with
    | some p, some ps => some (p :: ps)
    | _, _ => none
end
section
variable {K : PySem.W.Frag} {H : Hp} {h : Hd}
mutual
theorem Rep.dp : ∀ {d : D} {v : V} {p : PyData}, Rep K H h d v → toPy d = some p → Dp K H v p
  | _, _, _, .non, e => by rw [toPy] at e; cases e; exact .non
  | _, _, _, .bl b, e => by rw [toPy] at e; cases e; exact .bl b
  | _, _, _, .int i, e => by rw [toPy] at e; cases e; exact .int i
  | _, _, _, .str x, e => by rw [toPy] at e; cases e; exact .str x
  | .tup ds, _, _, .tup e0 n r, e => by
    rw [toPy] at e
    cases q : toPys ds with
    | none => rw [q] at e; cases e
    | some ps => rw [q] at e; cases e; exact .tup (.inl (.inl e0)) (Reps.dps r q)
  | .tup ds, _, _, .tupK k r, e => by
    rw [toPy] at e
    cases q : toPys ds with
    | none => rw [q] at e; cases e
    | some ps => rw [q] at e; cases e; exact .tup (.inr k) (Reps.dps r q)
  | .lst ds, _, _, .lst e0 n r, e => by
    rw [toPy] at e
    cases q : toPys ds with
    | none => rw [q] at e; cases e
    | some ps => rw [q] at e; cases e; exact .lst (.inl (.inl e0)) (Reps.dps r q)
  | _, _, _, .ref a, e => by rw [toPy] at e; cases e
  | _, _, _, .ins .., e => by rw [toPy] at e; cases e
  | _, _, _, .dct .., e => by rw [toPy] at e; cases e
  | _, _, _, .scr .., e => by rw [toPy] at e; cases e
  | _, _, _, .exc0 .., e => by rw [toPy] at e; cases e
  | _, _, _, .exc1 .., e => by rw [toPy] at e; cases e
theorem Reps.dps : ∀ {ds : List D} {vs : List V} {ps : List PyData}, Reps K H h ds vs → toPys ds = some ps → DpAll K H vs ps
  | _, _, _, .nil, e => by rw [toPys] at e; cases e; exact .nil
  | d :: ds, _, _, .cons r s, e => by
    rw [toPys] at e
    cases q : toPy d with
    | none => rw [q] at e; cases e
    | some p =>
      cases q2 : toPys ds with
      | none => rw [q, q2] at e; cases e
      | some ps => rw [q, q2] at e; cases e; exact .cons (Rep.dp r q) (Reps.dps s q2)
end
theorem deref_dp (hr : HRel K H h) {d : D} {v : V} {p : PyData} (r : Rep K H h d v) (e : toPy (deref h d) = some p) : Dp K H v p := by
  cases r with
  | ref a =>
    unfold deref at e
    dsimp only at e
    cases q : h a with
    | none => rw [q] at e; rw [toPy] at e; cases e
    | some d =>
      rw [q] at e
      cases d with
      | lst ds =>
        dsimp only at e
        rw [toPy] at e
        cases q2 : toPys ds with
        | none => rw [q2] at e; cases e
        | some ps =>
          rw [q2] at e; cases e
          obtain ⟨vs, e1, r1⟩ := hr a _ q
          exact .lst (.inl (.inl e1)) (Reps.dps r1 q2)
      | _ => rw [toPy] at e; cases e
  | non => exact Rep.dp (h := h) .non e
  | bl b => exact Rep.dp (h := h) (.bl b) e
  | int b => exact Rep.dp (h := h) (.int b) e
  | str b => exact Rep.dp (h := h) (.str b) e
  | tup a b c => exact Rep.dp (h := h) (.tup a b c) e
  | tupK a b => exact Rep.dp (h := h) (.tupK a b) e
  | lst a b c => exact Rep.dp (h := h) (.lst a b c) e
  | ins a b c d => exact Rep.dp (h := h) (.ins a b c d) e
  | dct a b c d => exact Rep.dp (h := h) (.dct a b c d) e
  | scr a => exact Rep.dp (h := h) (.scr a) e
  | exc0 a b => exact Rep.dp (h := h) (.exc0 a b) e
  | exc1 a b c d e' f => exact Rep.dp (h := h) (.exc1 a b c d e' f) e
end
/-- plain ones -/
@[reducible] def scalEq : D → D → Option Bool
  | .int i, .int j => some (decide (i = j))
  | .str i, .str j => some (decide (i = j))
  | .bl i, .bl j => some (decide (i = j))
  | .non, .non => some true
  | .non, .int _ => some false
  | .non, .str _ => some false
  | .non, .bl _ => some false
  | .int _, .non => some false
  | .str _, .non => some false
  | .bl _, .non => some false
  | .int _, .str _ => some false
  | .str _, .int _ => some false
  | .bl _, .str _ => some false
  | .str _, .bl _ => some false
  | _, _ => none
/-- of any depth -/
def deepEq (h : Hd) (x y : D) (Q : Bool → Prop) : Prop := match toPy (deref h x), toPy (deref h y) with
  | some p, some q => SeqAt.shaped p = true ∧ SeqAt.shaped q = true ∧ Q (PyData.eqv p q)
  | _, _ => False
@[reducible] def eqQ (x y : D) (h : Hd) (Q : Bool → Prop) : Prop := match scalEq x y with
  | some b => Q b
  | none => deepEq h x y Q
@[reducible] def eqR : RD2 := fun x y h Q => eqQ x y h fun b => Q (.bl b) h
@[reducible] def neR : RD2 := fun x y h Q => eqQ x y h fun b => Q (.bl (!b)) h
/-! ### < <= > >= -/
@[reducible] def ltR : RD2 := fun x y h Q => match x, y with
  | .int i, .int j => Q (.bl (decide (i < j))) h
  | .str i, .str j => Q (.bl (decide (i.cps.toList < j.cps.toList))) h
  | _, _ => False
@[reducible] def leR : RD2 := fun x y h Q => match x, y with
  | .int i, .int j => Q (.bl (decide (i ≤ j))) h
  | _, _ => False
@[reducible] def gtR : RD2 := fun x y h Q => match x, y with
  | .int i, .int j => Q (.bl (decide (j < i))) h
  | _, _ => False
@[reducible] def geR : RD2 := fun x y h Q => match x, y with
  | .int i, .int j => Q (.bl (decide (j ≤ i))) h
  | _, _ => False
/-! ### in -/
def flatD : D → Bool
  | .non => true
  | .bl _ => true
  | .int _ => true
  | .str _ => true
  | _ => false
def eqF : D → D → Bool
  | .non, .non => true
  | .bl a, .bl b => a == b
  | .bl a, .int b => (if a then 1 else 0) == b
  | .int a, .bl b => a == (if b then 1 else 0)
  | .int a, .int b => a == b
  | .str a, .str b => a == b
  | _, _ => false
def inD (x : D) (ds : List D) : Bool := ds.any fun y => eqF y x
def hasS (i j : Str) : Bool := !(Builtin.Str.occurrences j i 0 j.length 1).isEmpty
@[reducible] def inQ (x y : D) (h : Hd) (Q : Bool → Prop) : Prop := match x, y with
  | .str i, .str j => Q (hasS i j)
  | x, y => match seqA h y with
    | some ds => flatD x = true ∧ ds.all flatD = true ∧ Q (inD x ds)
    | none => False
@[reducible] def inR : RD2 := fun x y h Q => inQ x y h fun b => Q (.bl b) h
@[reducible] def ninR : RD2 := fun x y h Q => inQ x y h fun b => Q (.bl (!b)) h
/-! ### is -/
@[reducible] def isR : RD2 := fun x y h Q => match y with
  | .non => Q (.bl (match x with | .non => true | _ => false)) h
  | .bl b => match x with
    | .bl a => Q (.bl (decide (a = b))) h
    | _ => False
  | _ => False
@[reducible] def isnR : RD2 := fun x y h Q => match y with
  | .non => Q (.bl (match x with | .non => false | _ => true)) h
  | .bl b => match x with
    | .bl a => Q (.bl (!decide (a = b))) h
    | _ => False
  | _ => False
section
variable {X : Cx}
theorem scal_ok {K : PySem.W.Frag} {H : Hp} {h : Hd} {x y : D} {u v : V} {b : Bool} (e : scalEq x y = some b) (rx : Rep K H h x u) (ry : Rep K H h y v) : scal u v = true ∧ decide (u = v) = b := by
  cases rx <;> cases ry <;> first | (cases e; done) | (cases e; exact ⟨rfl, by simp⟩) | (cases e; exact ⟨rfl, by first | rfl | (simp; done)⟩)
theorem do_eq (hu : X.A.units + 64 < cLine) : OpR X (compareOp .Eq) (lift2 X.K eqR) := by
  intro pins s σ H u v v' u' Q I ru rv hx
  obtain ⟨h, x, y, Qd, hr, rx, ry, q, c⟩ := hx
  have q : eqQ x y h fun b => Qd (.bl b) h := q
  unfold eqQ at q
  cases e : scalEq x y with
  | some b =>
    rw [e] at q
    obtain ⟨e1, e2⟩ := scal_ok e rx ry
    exact op_eq pins s σ H _ _ _ _ Q I ru rv ⟨e1, by rw [e2]; exact c.here hr (.bl b) q⟩
  | none =>
    rw [e] at q
    have q : deepEq h x y fun b => Qd (.bl b) h := q
    unfold deepEq at q
    cases e1 : toPy (deref h x) with
    | none => rw [e1] at q; exact q.elim
    | some p =>
      cases e2 : toPy (deref h y) with
      | none => rw [e1, e2] at q; exact q.elim
      | some p2 =>
        rw [e1, e2] at q
        exact op_eqD hu pins s σ H _ _ _ _ Q I ru rv ⟨p, p2, deref_dp hr rx e1, deref_dp hr ry e2, q.1, q.2.1, c.here hr (.bl _) q.2.2⟩
theorem do_ne (hu : X.A.units + 64 < cLine) : OpR X (compareOp .NotEq) (lift2 X.K neR) := by
  intro pins s σ H u v v' u' Q I ru rv hx
  obtain ⟨h, x, y, Qd, hr, rx, ry, q, c⟩ := hx
  have q : eqQ x y h fun b => Qd (.bl (!b)) h := q
  unfold eqQ at q
  cases e : scalEq x y with
  | some b =>
    rw [e] at q
    obtain ⟨e1, e2⟩ := scal_ok e rx ry
    exact op_ne pins s σ H _ _ _ _ Q I ru rv ⟨e1, by rw [e2]; exact c.here hr (.bl _) q⟩
  | none =>
    rw [e] at q
    have q : deepEq h x y fun b => Qd (.bl (!b)) h := q
    unfold deepEq at q
    cases e1 : toPy (deref h x) with
    | none => rw [e1] at q; exact q.elim
    | some p =>
      cases e2 : toPy (deref h y) with
      | none => rw [e1, e2] at q; exact q.elim
      | some p2 =>
        rw [e1, e2] at q
        exact op_neD hu pins s σ H _ _ _ _ Q I ru rv ⟨p, p2, deref_dp hr rx e1, deref_dp hr ry e2, q.1, q.2.1, c.here hr (.bl _) q.2.2⟩
theorem do_lt : OpR X (compareOp .Lt) (lift2 X.K ltR) := by
  intro pins s σ H u v v' u' Q I ru rv hx
  obtain ⟨h, x, y, Qd, hr, rx, ry, q, c⟩ := hx
  cases x with
  | int i => cases y with
    | int j => cases rx; cases ry; exact op_lt pins s σ H _ _ _ _ Q I ru rv ⟨i, j, rfl, rfl, c.here hr (.bl _) q⟩
    | _ => exact q.elim
  | str i => cases y with
    | str j => cases rx; cases ry; exact op_lt_str pins s σ H _ _ _ _ Q I ru rv ⟨i, j, rfl, rfl, c.here hr (.bl _) q⟩
    | _ => exact q.elim
  | _ => exact q.elim
theorem do_le : OpR X (compareOp .LtE) (lift2 X.K leR) := by
  intro pins s σ H u v v' u' Q I ru rv hx
  obtain ⟨h, x, y, Qd, hr, rx, ry, q, c⟩ := hx
  cases x with
  | int i => cases y with
    | int j => cases rx; cases ry; exact op_le pins s σ H _ _ _ _ Q I ru rv ⟨i, j, rfl, rfl, c.here hr (.bl _) q⟩
    | _ => exact q.elim
  | _ => exact q.elim
theorem do_gt : OpR X (compareOp .Gt) (lift2 X.K gtR) := by
  intro pins s σ H u v v' u' Q I ru rv hx
  obtain ⟨h, x, y, Qd, hr, rx, ry, q, c⟩ := hx
  cases x with
  | int i => cases y with
    | int j => cases rx; cases ry; exact op_gt pins s σ H _ _ _ _ Q I ru rv ⟨i, j, rfl, rfl, c.here hr (.bl _) q⟩
    | _ => exact q.elim
  | _ => exact q.elim
theorem do_ge : OpR X (compareOp .GtE) (lift2 X.K geR) := by
  intro pins s σ H u v v' u' Q I ru rv hx
  obtain ⟨h, x, y, Qd, hr, rx, ry, q, c⟩ := hx
  cases x with
  | int i => cases y with
    | int j => cases rx; cases ry; exact op_ge pins s σ H _ _ _ _ Q I ru rv ⟨i, j, rfl, rfl, c.here hr (.bl _) q⟩
    | _ => exact q.elim
  | _ => exact q.elim
theorem flat_ok {K : PySem.W.Frag} {H : Hp} {h : Hd} {x : D} {u : V} (f : flatD x = true) (r : Rep K H h x u) : flatV u = true := by
  cases r <;> first | rfl | (cases f; done)
theorem flats_ok {K : PySem.W.Frag} {H : Hp} {h : Hd} : ∀ {xs : List D} {us : List V}, xs.all flatD = true → Reps K H h xs us → us.all flatV = true
  | _, _, _, .nil => rfl
  | _, _, f, .cons r s => by
    rw [List.all_cons, Bool.and_eq_true] at f
    rw [List.all_cons, flat_ok f.1 r, flats_ok f.2 s]; rfl
theorem eqF_ok {K : PySem.W.Frag} {H : Hp} {h : Hd} {x y : D} {u v : V} (fx : flatD x = true) (fy : flatD y = true) (rx : Rep K H h x u) (ry : Rep K H h y v) : eqV v u = eqF y x := by
  cases rx <;> cases ry <;> first | rfl | (cases fx; done) | (cases fy; done)
theorem inD_ok {K : PySem.W.Frag} {H : Hp} {h : Hd} {x : D} {u : V} (fx : flatD x = true) (rx : Rep K H h x u) : ∀ {xs : List D} {us : List V}, xs.all flatD = true → Reps K H h xs us → inV u us = inD x xs
  | _, _, _, .nil => rfl
  | y :: xs, v :: us, f, .cons r s => by
    rw [List.all_cons, Bool.and_eq_true] at f
    have e := inD_ok fx rx f.2 s
    unfold inV at e ⊢
    unfold inD at e ⊢
    rw [List.any_cons, List.any_cons, eqF_ok fx f.1 rx r, e]
theorem in_seq {neg : Bool} {op : CmpOp} (ho : OpR X (compareOp op) (rIn X.K neg)) {pins : List (Addr × Obj)} {s : Shared} {σ : L2.St} {H : Hp} {u v : V} {u' v' : Value} {Q : VK} {h : Hd} {x y : D} {Qd : QD} (I : Inv X pins σ H s) (ru : RelV u u') (rv : RelV v v')
    (hr : HRel X.K H h) (rx : Rep X.K H h x u) (ry : Rep X.K H h y v) (c : Cl X.K h H Qd Q)
    (q : match seqA h y with | some ds => flatD x = true ∧ ds.all flatD = true ∧ Qd (.bl (if neg then !inD x ds else inD x ds)) h | none => False) : wpAny (model X.prog X.w) X.A (compareOp op u' v') (EP X pins σ Q) X.xe s := by
  cases e : seqA h y with
  | none => rw [e] at q; exact q.elim
  | some ds =>
    rw [e] at q
    obtain ⟨a, vs, rfl, hs, rs⟩ := seqA_ok hr ry e
    refine ho pins s σ H _ _ _ _ Q I ru rv ⟨a, vs, rfl, hs, flat_ok q.1 rx, flats_ok q.2.1 rs, ?_⟩
    rw [inD_ok q.1 rx q.2.1 rs]
    exact c.here hr (.bl _) q.2.2
theorem do_in : OpR X (compareOp .In) (lift2 X.K inR) := by
  intro pins s σ H u v u' v' Q I ru rv hx
  obtain ⟨h, x, y, Qd, hr, rx, ry, q, c⟩ := hx
  have q : inQ x y h fun b => Qd (.bl b) h := q
  unfold inQ at q
  split at q
  · cases rx; cases ry
    exact op_in_str pins s σ H _ _ _ _ Q I ru rv ⟨_, _, rfl, rfl, c.here hr (.bl _) q⟩
  · exact in_seq (neg := false) op_in_seq I ru rv hr rx ry c q
theorem do_nin : OpR X (compareOp .NotIn) (lift2 X.K ninR) := by
  intro pins s σ H u v u' v' Q I ru rv hx
  obtain ⟨h, x, y, Qd, hr, rx, ry, q, c⟩ := hx
  have q : inQ x y h fun b => Qd (.bl (!b)) h := q
  unfold inQ at q
  split at q
  · cases rx; cases ry
    exact op_notin_str pins s σ H _ _ _ _ Q I ru rv ⟨_, _, rfl, rfl, c.here hr (.bl _) q⟩
  · exact in_seq (neg := true) op_notIn_seq I ru rv hr rx ry c q
theorem do_is : OpR X (compareOp .Is) (lift2 X.K isR) := by
  intro pins s σ H u v u' v' Q I ru rv hx
  obtain ⟨h, x, y, Qd, hr, rx, ry, q, c⟩ := hx
  cases y with
  | non =>
    cases ry
    refine op_isN pins s σ H _ _ _ _ Q I ru rv ⟨rfl, ?_⟩
    have z := c.here hr (.bl _) q
    cases rx <;> simpa using z
  | bl b => cases x with
    | bl a => cases rx; cases ry; exact op_isBl pins s σ H _ _ _ _ Q I ru rv ⟨a, b, rfl, rfl, c.here hr (.bl _) q⟩
    | _ => exact q.elim
  | _ => exact q.elim
theorem do_isn : OpR X (compareOp .IsNot) (lift2 X.K isnR) := by
  intro pins s σ H u v u' v' Q I ru rv hx
  obtain ⟨h, x, y, Qd, hr, rx, ry, q, c⟩ := hx
  cases y with
  | non =>
    cases ry
    refine op_notN pins s σ H _ _ _ _ Q I ru rv ⟨rfl, ?_⟩
    have z := c.here hr (.bl _) q
    cases rx <;> simpa using z
  | bl b => cases x with
    | bl a => cases rx; cases ry; exact op_notBl pins s σ H _ _ _ _ Q I ru rv ⟨a, b, rfl, rfl, c.here hr (.bl _) q⟩
    | _ => exact q.elim
  | _ => exact q.elim
end

/-! ### truth, len -/
@[reducible] def truQ : D → Hd → (Bool → Prop) → Prop := fun d h Q => match d with
  | .non => Q false
  | .bl b => Q b
  | .int i => Q (i != 0)
  | .str x => x.length ≤ sizeLine ∧ Q ((x.length : Int) != 0)
  | .dct ks ds => Q (!ks.isEmpty)
  | d => match seqA h d with
    | some ds => Q (!ds.isEmpty)
    | none => False
@[reducible] def lenR : RD1 := fun d h Q => match d with
  | .str x => x.length ≤ sizeLine ∧ Q (.int x.length) h
  | d => match seqA h d with
    | some ds => Q (.int ds.length) h
    | none => False
section
variable {X : Cx}
theorem zip_isEmpty {α β : Type} : ∀ {l : List α} {m : List β}, l.length = m.length → (l.zip m).isEmpty = l.isEmpty
  | [], [], _ => rfl
  | [], _ :: _, e => by simp at e
  | _ :: _, [], e => by simp at e
  | _ :: _, _ :: _, _ => rfl
theorem isEmpty_len {α β : Type} {l : List α} {m : List β} (e : l.length = m.length) : l.isEmpty = m.isEmpty := by
  cases l <;> cases m <;> first | rfl | (simp at e; done)
theorem tru_ok2 {H : Hp} {h : Hd} {d : D} {v : V} {Q : Bool → Prop} (hr : HRel X.K H h) (r : Rep X.K H h d v) (q : truQ d h Q) : ∃ k, TruV X.K v H k ∧ Q k := by
  have seq : ∀ ds, seqA h d = some ds → Q (!ds.isEmpty) → ∃ k, TruV X.K v H k ∧ Q k := fun ds e q => by
    obtain ⟨a, vs, rfl, hs, rs⟩ := seqA_ok hr r e
    refine ⟨_, ?_, q⟩
    rw [isEmpty_len rs.length]
    rcases hs with hs | hs
    · exact .inl ⟨vs, hs, rfl⟩
    · exact .inr (.inl ⟨vs, hs, rfl⟩)
  have other : (match seqA h d with | some ds => Q (!ds.isEmpty) | none => False) → ∃ k, TruV X.K v H k ∧ Q k := fun q => by
    cases e : seqA h d with
    | none => rw [e] at q; exact q.elim
    | some ds => rw [e] at q; exact seq ds e q
  cases d with
  | non => cases r; exact ⟨_, rfl, q⟩
  | bl b => cases r; exact ⟨_, rfl, q⟩
  | int i => cases r; exact ⟨_, rfl, q⟩
  | str x => cases r; exact ⟨_, ⟨q.1, rfl⟩, q.2⟩
  | dct ks ds =>
    cases r with
    | dct e n l r => exact ⟨_, .inr (.inr ⟨_, e, by rw [zip_isEmpty l]⟩), q⟩
  | _ => exact other q
theorem do_len : CallR X (.builtin "len") (liftS X.K fun ds h Q => match ds with | [d] => lenR d h Q | _ => False) := by
  intro pins s σ H xs us Q I r hx
  obtain ⟨h, ds, Qd, hr, rs, q, c⟩ := hx
  cases rs with
  | nil => exact q.elim
  | cons r1 r2 =>
    cases r2 with
    | cons _ _ => exact q.elim
    | nil =>
      rename_i d v
      have q : lenR d h Qd := q
      have other : (match seqA h d with | some ds => Qd (.int ds.length) h | none => False) → wpAny (model X.prog X.w) X.A (call (.builtin "len") us) (EP X pins σ Q) X.xe s := fun q => by
        cases e : seqA h d with
        | none => rw [e] at q; exact q.elim
        | some ds =>
          rw [e] at q
          obtain ⟨a, vs, rfl, hs, rs⟩ := seqA_ok hr r1 e
          refine call_len pins s σ H _ us Q I r ⟨_, vs.length, rfl, ?_, ?_⟩
          · rcases hs with hs | hs
            · exact .inl ⟨vs, hs, rfl⟩
            · exact .inr ⟨vs, hs, rfl⟩
          · rw [← rs.length]; exact c.here hr (.int _) q
      cases d with
      | str x => cases r1; exact call_len pins s σ H _ us Q I r ⟨_, _, rfl, ⟨q.1, rfl⟩, c.here hr (.int _) q.2⟩
      | _ => exact other q
end

/-! ### items, slices -/
@[reducible] def ixR : RD2 := fun x y h Q => match y with
  | .int i => match x with
    | .str z => z.length ≤ sizeLine ∧ match atI z.cps.toList i with
      | some c => Q (.str ⟨#[c]⟩) h
      | none => False
    | x => match seqA h x with
      | some ds => match atI ds i with
        | some d => Q d h
        | none => False
      | none => False
  | _ => False
def cutD {α : Type} (xs : List α) (lo hi : Option Int) : List α := (xs.drop (HT.sIx xs.length 0 lo)).take (HT.sIx xs.length xs.length hi - HT.sIx xs.length 0 lo)
@[reducible] def slR (x : D) (lo hi : Option Int) (h : Hd) (Q : QD) : Prop := match x with
  | .str z => z.length ≤ sizeLine ∧ Q (.str (cutS z lo hi)) h
  | .tup ds => Q (.tup (cutD ds lo hi)) h
  | .scr is => Q (.lst (cutD (is.map D.int) lo hi)) h
  | x => match seqL h x with
    | some ds => Q (.lst (cutD ds lo hi)) h
    | none => False
section
variable {X : Cx}
theorem atI_rep {K : PySem.W.Frag} {H : Hp} {h : Hd} {ds : List D} {vs : List V} {i : Int} {d : D} (r : Reps K H h ds vs) (e : atI ds i = some d) : ∃ v, atI vs i = some v ∧ Rep K H h d v := by
  unfold atI at e ⊢
  rw [← r.length]
  cases q : ixN ds.length i with
  | none => rw [q] at e; cases e
  | some j =>
    rw [q] at e
    exact r.get e
theorem do_ix : IxR X (lift2 X.K ixR) := by
  intro va sl pins s σ H u v u' v' Q I ru rv hx hs
  obtain ⟨h, x, y, Qd, hr, rx, ry, q, c⟩ := hx
  cases y with
  | int i =>
    cases ry
    have other : (match seqA h x with | some ds => (match atI ds i with | some d => Qd d h | none => False) | none => False) → wpAny (model X.prog X.w) X.A (subscriptTail va sl u' v') (EP X pins σ Q) X.xe s := fun q => by
      cases e : seqA h x with
      | none => rw [e] at q; exact q.elim
      | some ds =>
        rw [e] at q
        dsimp only at q
        cases e2 : atI ds i with
        | none => rw [e2] at q; exact q.elim
        | some d =>
          rw [e2] at q
          obtain ⟨a, vs, rfl, hsq, rs⟩ := seqA_ok hr rx e
          obtain ⟨v, e3, rd⟩ := atI_rep rs e2
          rcases hsq with hsq | hsq
          · exact ix_list va sl pins s σ H _ _ _ _ Q I ru rv ⟨a, vs, i, v, rfl, rfl, hsq, e3, c.here hr rd q⟩ hs
          · exact ix_tup va sl pins s σ H _ _ _ _ Q I ru rv ⟨a, vs, i, v, rfl, rfl, hsq, e3, c.here hr rd q⟩ hs
    cases x with
    | str z =>
      cases rx
      obtain ⟨hz, q⟩ := q
      cases e2 : atI z.cps.toList i with
      | none => rw [e2] at q; exact q.elim
      | some d =>
        rw [e2] at q
        exact ix_str va sl pins s σ H _ _ _ _ Q I ru rv ⟨z, i, d, rfl, rfl, hz, e2, c.here hr (.str _) q⟩ hs
    | _ => exact other q
  | _ => exact q.elim
theorem cutD_rep {K : PySem.W.Frag} {H : Hp} {h : Hd} {ds : List D} {vs : List V} (r : Reps K H h ds vs) (lo hi : Option Int) : Reps K H h (cutD ds lo hi) (cutV vs lo hi) := by
  unfold cutD cutV
  rw [r.length]
  exact (r.drop _).take _
/-- a slice by data -/
def liftSl (K : PySem.W.Frag) : V → Option Int → Option Int → Hp → VK → Prop := fun u lo hi H Q => ∃ h x Qd, HRel K H h ∧ Rep K H h x u ∧ slR x lo hi h Qd ∧ Cl K h H Qd Q
theorem do_sl : SlR X (liftSl X.K) := by
  intro pins s σ H u u' vl vu lo hi sl Q I ru hsl pl pu hx
  obtain ⟨h, x, Qd, hr, rx, q, c⟩ := hx
  have lists : ∀ (a : Addr) (vs : List V) (ds : List D), u = .ref a → SqL X.K H a vs → Reps X.K H h ds vs → Qd (.lst (cutD ds lo hi)) h → ∃ T id, typeLookup (.type T) "__getitem__" = pure (some (.builtin id)) ∧ s.TypeIs u' T ∧ wpAny (model X.prog X.w) X.A (getItem u' (.ref sl)) (EP X pins σ Q) X.xe s := fun a vs ds e hs rs q => by
    subst e
    exact sl_list pins s σ H _ u' vl vu lo hi sl Q I ru hsl pl pu ⟨a, vs, rfl, hs, fun p n => c.fresh hr n (Rep.newL hr (cutD_rep rs lo hi) n) q⟩
  have other : (match seqL h x with | some ds => Qd (.lst (cutD ds lo hi)) h | none => False) → ∃ T id, typeLookup (.type T) "__getitem__" = pure (some (.builtin id)) ∧ s.TypeIs u' T ∧ wpAny (model X.prog X.w) X.A (getItem u' (.ref sl)) (EP X pins σ Q) X.xe s := fun q => by
    cases e : seqL h x with
    | none => rw [e] at q; exact q.elim
    | some ds =>
      rw [e] at q
      obtain ⟨a, vs, e1, hs, rs⟩ := seqL_ok hr rx e
      exact lists a vs ds e1 (.inl (.inl hs)) rs q
  cases x with
  | str z => cases rx; exact sl_str pins s σ H _ u' vl vu lo hi sl Q I ru hsl pl pu ⟨z, rfl, q.1, c.here hr (.str _) q.2⟩
  | tup ds =>
    obtain ⟨a, vs, rfl, hs, rs⟩ := rx.sqT
    refine sl_tupA pins s σ H _ u' vl vu lo hi sl Q I ru hsl pl pu ⟨a, vs, rfl, hs, fun hw => ?_, fun _ p n => c.fresh hr n (Rep.newT hr (cutD_rep rs lo hi) n) q⟩
    have e : cutD ds lo hi = ds := by
      unfold cutD
      rw [rs.length, hw.1, hw.2, ← rs.length]
      simp
    have q : Qd (.tup (cutD ds lo hi)) h := q
    rw [e] at q
    exact c.here hr rx q
  | scr is =>
    cases rx with
    | scr e => exact lists _ _ _ rfl e.sqL (Reps.ints _) q
  | _ => exact other q
end
end Y
namespace Y
open PySem PySem.Spec PyProof.Rows L2

/-! ### built-in calls -/
inductive Bif where
  | len | sum | abs | all | any | tuple | list | int | max | min | divmod | sorted | str
  deriving DecidableEq
def Bif.nm : Bif → Str
  | .len => "len" | .sum => "sum" | .abs => "abs" | .all => "all" | .any => "any" | .tuple => "tuple" | .list => "list" | .int => "int" | .max => "max" | .min => "min" | .divmod => "divmod" | .sorted => "sorted" | .str => "str"
def Bif.val : Bif → Value
  | .len => .builtin "len" | .sum => .builtin "sum" | .abs => .builtin "abs" | .all => .builtin "all" | .any => .builtin "any" | .tuple => .type "tuple" | .list => .type "list" | .int => .type "int" | .max => .builtin "max" | .min => .builtin "min"
  | .divmod => .builtin "divmod" | .sorted => .builtin "sorted" | .str => .type "str"
@[reducible] def one (r : RD1) : RDs := fun ds h Q => match ds with
  | [d] => r d h Q
  | _ => False
@[reducible] def two (r : RD2) : RDs := fun ds h Q => match ds with
  | [d, e] => r d e h Q
  | _ => False
@[reducible] def sumR : RD1 := fun d h Q => match seqA h d with
  | some ds => match intsOf ds with
    | some is => Q (.int is.sum) h
    | none => False
  | none => False
@[reducible] def absR : RD1 := fun d h Q => match d with
  | .int i => Q (.int (if i < 0 then -i else i)) h
  | _ => False
@[reducible] def allR : RD1 := fun d h Q => match seqL h d with
  | some ds => match blsOf ds with
    | some bs => Q (.bl (bs.all id)) h
    | none => False
  | none => False
@[reducible] def anyR : RD1 := fun d h Q => match seqL h d with
  | some ds => match blsOf ds with
    | some bs => Q (.bl (bs.any id)) h
    | none => False
  | none => False
@[reducible] def tupleR : RD1 := fun d h Q => match seqA h d with
  | some ds => Q (.tup ds) h
  | none => False
@[reducible] def listR : RD1 := fun d h Q => match seqA h d with
  | some ds => Q (.lst ds) h
  | none => False
@[reducible] def intR : RD1 := fun d h Q => match d with
  | .int i => Q (.int i) h
  | .bl b => Q (.int (if b then 1 else 0)) h
  | _ => False
/-- the greatest, the least of some ints -/
def maxL : List Int → Int
  | [] => 0
  | [i] => i
  | i :: j :: r => max i (maxL (j :: r))
def minL : List Int → Int
  | [] => 0
  | [i] => i
  | i :: j :: r => min i (minL (j :: r))
theorem maxL_mem : ∀ {l : List Int}, l ≠ [] → maxL l ∈ l ∧ ∀ y ∈ l, y ≤ maxL l
  | [], h => absurd rfl h
  | [i], _ => ⟨List.mem_cons_self, fun y hy => by
    rcases List.mem_cons.mp hy with e | e
    · subst e; exact Int.le_refl _
    · cases e⟩
  | i :: j :: r, _ => by
    obtain ⟨h1, h2⟩ := maxL_mem (l := j :: r) (by simp)
    show max i (maxL (j :: r)) ∈ i :: j :: r ∧ ∀ y ∈ i :: j :: r, y ≤ max i (maxL (j :: r))
    refine ⟨?_, fun y hy => ?_⟩
    · by_cases c : i ≤ maxL (j :: r)
      · rw [Int.max_eq_right c]; exact List.mem_cons_of_mem _ h1
      · rw [Int.max_eq_left (by omega)]; exact List.mem_cons_self
    · rcases List.mem_cons.mp hy with e | hy
      · subst e; omega
      · have := h2 y hy; omega
theorem minL_mem : ∀ {l : List Int}, l ≠ [] → minL l ∈ l ∧ ∀ y ∈ l, minL l ≤ y
  | [], h => absurd rfl h
  | [i], _ => ⟨List.mem_cons_self, fun y hy => by
    rcases List.mem_cons.mp hy with e | e
    · subst e; exact Int.le_refl _
    · cases e⟩
  | i :: j :: r, _ => by
    obtain ⟨h1, h2⟩ := minL_mem (l := j :: r) (by simp)
    show min i (minL (j :: r)) ∈ i :: j :: r ∧ ∀ y ∈ i :: j :: r, min i (minL (j :: r)) ≤ y
    refine ⟨?_, fun y hy => ?_⟩
    · by_cases c : i ≤ minL (j :: r)
      · rw [Int.min_eq_left c]; exact List.mem_cons_self
      · rw [Int.min_eq_right (by omega)]; exact List.mem_cons_of_mem _ h1
    · rcases List.mem_cons.mp hy with e | hy
      · subst e; omega
      · have := h2 y hy; omega
@[reducible] def maxR : RDs := fun ds h Q => match ds with
  | [d] => match seqL h d with
    | some ds => match intsOf ds with
      | some is => is ≠ [] ∧ Q (.int (maxL is)) h
      | none => False
    | none => False
  | [.int i, .int j] => Q (.int (max i j)) h
  | _ => False
@[reducible] def minR : RDs := fun ds h Q => match ds with
  | [d] => match seqL h d with
    | some ds => match intsOf ds with
      | some is => is ≠ [] ∧ Q (.int (minL is)) h
      | none => False
    | none => False
  | [.int i, .int j] => Q (.int (min i j)) h
  | _ => False
@[reducible] def divmodR : RD2 := fun x y h Q => match x, y with
  | .int i, .int j => DivOk j ∧ Q (.tup [.int (i / j), .int (i % j)]) h
  | _, _ => False
/-- sorted: ints, texts -/
@[reducible] def sortedR : RD1 := fun d h Q => match seqL h d with
  | some ds => (∃ is, intsOf ds = some is ∧ is.length < 64 ∧ ∀ is' : List Int, is'.Perm is → is'.Pairwise (· ≤ ·) → Q (.lst (is'.map D.int)) h) ∨
    ∃ is, strsOf ds = some is ∧ is.length < 64 ∧ ∀ is' : List Str, is'.Perm is → sortedS is' = true → Q (.lst (is'.map D.str)) h
  | none => False
@[reducible] def strR : RD1 := fun d h Q => match d with
  | .str x => Q (.str x) h
  | .int i => i.natAbs.log2 < 1920 ∧ Q (.str (toString i)) h
  | _ => False
@[reducible] def bifR : Bif → RDs
  | .len => one lenR | .sum => one sumR | .abs => one absR | .all => one allR | .any => one anyR | .tuple => one tupleR | .list => one listR | .int => one intR | .max => maxR | .min => minR | .divmod => two divmodR | .sorted => one sortedR | .str => one strR
section
variable {X : Cx}
theorem one_ok {f : Value} {r : RD1} (h : ∀ (pins : List (Addr × Obj)) (s : Shared) (σ : L2.St) (H : Hp) (v : V) (u : Value) (Q : VK) (h : Hd) (d : D) (Qd : QD), Inv X pins σ H s → RelV v u → HRel X.K H h → Rep X.K H h d v → r d h Qd → Cl X.K h H Qd Q →
    wpAny (model X.prog X.w) X.A (call f [u]) (EP X pins σ Q) X.xe s) : CallR X f (liftS X.K (one r)) := by
  intro pins s σ H xs us Q I rv hx
  obtain ⟨hd, ds, Qd, hr, rs, q, c⟩ := hx
  cases rs with
  | nil => exact q.elim
  | cons r1 r2 =>
    cases r2 with
    | cons _ _ => exact q.elim
    | nil =>
      obtain ⟨u, rfl, ru⟩ := vals1 rv
      exact h pins s σ H _ u Q hd _ Qd I ru hr r1 q c
theorem two_ok {f : Value} {r : RD2} (h : ∀ (pins : List (Addr × Obj)) (s : Shared) (σ : L2.St) (H : Hp) (v v2 : V) (u u2 : Value) (Q : VK) (h : Hd) (d d2 : D) (Qd : QD), Inv X pins σ H s → RelV v u → RelV v2 u2 → HRel X.K H h → Rep X.K H h d v → Rep X.K H h d2 v2 → r d d2 h Qd → Cl X.K h H Qd Q →
    wpAny (model X.prog X.w) X.A (call f [u, u2]) (EP X pins σ Q) X.xe s) : CallR X f (liftS X.K (two r)) := by
  intro pins s σ H xs us Q I rv hx
  obtain ⟨hd, ds, Qd, hr, rs, q, c⟩ := hx
  cases rs with
  | nil => exact q.elim
  | cons r1 r2 =>
    cases r2 with
    | nil => exact q.elim
    | cons r2 r3 =>
      cases r3 with
      | cons _ _ => exact q.elim
      | nil =>
        obtain ⟨u, u2, rfl, ru, ru2⟩ := vals2 rv
        exact h pins s σ H _ _ u u2 Q hd _ _ Qd I ru ru2 hr r1 r2 q c
theorem rel1 {v : V} {u : Value} (r : RelV v u) : Vals [v] [u] := .cons r .nil
theorem rel2 {v w : V} {u t : Value} (r : RelV v u) (q : RelV w t) : Vals [v, w] [u, t] := .cons r (.cons q .nil)
theorem preSum_getD' (l : List Int) : ∀ j, preSum (fun i => l.getD i 0) j = (l.take j).sum
  | 0 => by simp [preSum]
  | j + 1 => by
    rw [preSum, preSum_getD' l j, List.take_succ, List.sum_append]
    cases e : l[j]? with
    | none => simp [List.getD, e]
    | some v => simp [List.getD, e]
theorem preSum_ints {its : List Value} {ns : List Int} (hi : IntsAre its ns) : preSum (fun i => ns.getD i 0) ns.length = ns.sum := by
  rw [preSum_getD', List.take_of_length_le (Nat.le_refl _)]
theorem sum_tup {pins : List (Addr × Obj)} {s : Shared} {σ : L2.St} {H : Hp} {a : Addr} {ns : List Int} {Q : VK} (hc : X.calm = true) (I : Inv X pins σ H s) (hs : SqT X.K H a (ns.map V.int)) (q : Q (.int ns.sum) H) :
    wpAny (model X.prog X.w) X.A (call (.builtin "sum") [.ref a]) (EP X pins σ Q) X.xe s := by
  obtain ⟨its, rv, ht, _⟩ := I.tuple hs
  have hi := rv.ints
  have hh := I.ok.hd hc
  have hlt : a < s.heap.objs.size := ht.lt
  have hlen : its.length = ns.length := hi.length
  refine call_sum_walkG (wpAny_pyIter_tuple (items := its.toArray) ht ?_)
  refine ⟨_, _, _, _, _, _, fun i => ns.getD i 0, rfl, Walks.tuple (A := X.A.in1) hh s.heap.objs.size a (Nat.ne_of_lt hlt) its.toArray, ⟨⟨_, Heap.get?_push_size _ rfl, rfl, rfl⟩, ?_⟩, fun b hb => ?_, fun i v hv => ?_, fun h' tk t' hk => ?_⟩
  · obtain ⟨o, ho, r⟩ := ht
    exact ⟨o, Heap.get?_push_of_some _ ho, r⟩
  · show b < (s.heap.push _).objs.size
    rw [Heap.size_push]
    rcases List.mem_cons.mp hb with rfl | hb
    · exact Nat.lt_succ_self _
    · rcases List.mem_cons.mp hb with rfl | hb
      · exact Nat.lt_succ_of_lt hlt
      · cases hb
  · have hv : its[i]? = some v := by simpa using hv
    have hil : i < ns.length := by rw [← hlen]; exact (List.getElem?_eq_some_iff.mp hv).1
    have hi2 : (ns.map V.int)[i]? = some (V.int ns[i]) := by simp [hil]
    obtain ⟨u, e1, e2⟩ := rv.get hi2
    rw [hv] at e1; cases e1
    obtain ⟨t, rfl⟩ := e2
    exact ⟨t, by simp [hil]⟩
  · have e : its.toArray.size = ns.length := by simp [hlen]
    rw [e, preSum_ints hi]
    refine ⟨.int _, H, I.kept (t' := tk) (fun b o e => hk b o ?_ (Heap.get?_push_of_some _ e)), ⟨_, rfl⟩, q⟩
    simp only [List.mem_singleton]
    exact Nat.ne_of_lt (Heap.lt_size e)
theorem do_sum (hc : X.calm = true) : CallR X (.builtin "sum") (liftS X.K (one sumR)) := one_ok fun pins s σ H v u Q h d Qd I ru hr r q c => by
  unfold sumR at q
  cases e : seqA h d with
  | none => rw [e] at q; exact q.elim
  | some ds =>
    rw [e] at q
    dsimp only at q
    cases e2 : intsOf ds with
    | none => rw [e2] at q; exact q.elim
    | some is =>
      rw [e2] at q
      obtain ⟨a, vs, rfl, hs, rs⟩ := seqA_ok hr r e
      rw [intsOf_eq e2] at rs
      obtain rfl := rs.toInts
      rcases hs with hs | hs
      · exact cr_sum hc pins s σ H _ _ Q I (rel1 ru) ⟨a, is, rfl, hs, c.here hr (.int _) q⟩
      · cases ru
        exact sum_tup hc I hs (c.here hr (.int _) q)
theorem do_abs : CallR X (.builtin "abs") (liftS X.K (one absR)) := one_ok fun pins s σ H v u Q h d Qd I ru hr r q c => by
  cases d with
  | int i => cases r; exact call_abs pins s σ H _ _ Q I (rel1 ru) ⟨i, rfl, c.here hr (.int _) q⟩
  | _ => exact q.elim
theorem do_all (hc : X.calm = true) : CallR X (.builtin "all") (liftS X.K (one allR)) := one_ok fun pins s σ H v u Q h d Qd I ru hr r q c => by
  unfold allR at q
  cases e : seqL h d with
  | none => rw [e] at q; exact q.elim
  | some ds =>
    rw [e] at q
    dsimp only at q
    cases e2 : blsOf ds with
    | none => rw [e2] at q; exact q.elim
    | some is =>
      rw [e2] at q
      obtain ⟨a, vs, rfl, hs, rs⟩ := seqL_ok hr r e
      rw [blsOf_eq e2] at rs
      obtain rfl := rs.toBls
      exact cr_all hc pins s σ H _ _ Q I (rel1 ru) ⟨a, is, rfl, .inl (.inl hs), c.here hr (.bl _) q⟩
theorem do_any (hc : X.calm = true) : CallR X (.builtin "any") (liftS X.K (one anyR)) := one_ok fun pins s σ H v u Q h d Qd I ru hr r q c => by
  unfold anyR at q
  cases e : seqL h d with
  | none => rw [e] at q; exact q.elim
  | some ds =>
    rw [e] at q
    dsimp only at q
    cases e2 : blsOf ds with
    | none => rw [e2] at q; exact q.elim
    | some is =>
      rw [e2] at q
      obtain ⟨a, vs, rfl, hs, rs⟩ := seqL_ok hr r e
      rw [blsOf_eq e2] at rs
      obtain rfl := rs.toBls
      exact cr_any hc pins s σ H _ _ Q I (rel1 ru) ⟨a, is, rfl, .inl (.inl hs), c.here hr (.bl _) q⟩
theorem do_tuple : CallR X (.type "tuple") (liftS X.K (one tupleR)) := one_ok fun pins s σ H v u Q h d Qd I ru hr r q c => by
  unfold tupleR at q
  cases e : seqA h d with
  | none => rw [e] at q; exact q.elim
  | some ds =>
    rw [e] at q
    obtain ⟨a, vs, rfl, hs, rs⟩ := seqA_ok hr r e
    rcases hs with hs | hs
    · exact call_tuple_of pins s σ H _ _ Q I (rel1 ru) ⟨a, vs, rfl, .inl ⟨hs, fun l n => c.fresh hr n (Rep.newT hr rs n) q⟩⟩
    · refine call_tuple_of pins s σ H _ _ Q I (rel1 ru) ⟨a, vs, rfl, .inr ⟨hs, ?_⟩⟩
      -- the tuple itself
      cases d with
      | tup es => cases e; exact c.here hr r q
      | scr is =>
        cases r with
        | scr e' =>
          have hl := e'.sqL
          obtain ⟨its, _, ⟨o, n, ho, hc1, _⟩, _⟩ := I.list hl
          obtain ⟨its2, _, ⟨o2, ho2, hc2, _⟩, _⟩ := I.tuple hs
          rw [ho] at ho2; cases ho2; rw [hc1] at hc2; exact absurd (Value.type.inj hc2) (by decide)
      | _ =>
        obtain ⟨b, us, e1, hb, rb⟩ := seqL_ok hr r (show seqL h _ = some ds from e)
        cases e1
        obtain ⟨its, _, ⟨o, n, ho, hc1, _⟩, _⟩ := I.list (.inl (.inl hb))
        obtain ⟨its2, _, ⟨o2, ho2, hc2, _⟩, _⟩ := I.tuple hs
        rw [ho] at ho2; cases ho2; rw [hc1] at hc2; exact absurd (Value.type.inj hc2) (by decide)
theorem do_list : CallR X (.type "list") (liftS X.K (one listR)) := one_ok fun pins s σ H v u Q h d Qd I ru hr r q c => by
  unfold listR at q
  cases e : seqA h d with
  | none => rw [e] at q; exact q.elim
  | some ds =>
    rw [e] at q
    obtain ⟨a, vs, rfl, hs, rs⟩ := seqA_ok hr r e
    exact call_list_of pins s σ H _ _ Q I (rel1 ru) ⟨a, vs, rfl, hs, fun l n => c.fresh hr n (Rep.newL hr rs n) q⟩
theorem do_int : CallR X (.type "int") (liftS X.K (one intR)) := one_ok fun pins s σ H v u Q h d Qd I ru hr r q c => by
  cases d with
  | int i => cases r; exact call_int1 pins s σ H _ _ Q I (rel1 ru) (.inl ⟨i, rfl, c.here hr (.int _) q⟩)
  | bl i => cases r; exact call_int1 pins s σ H _ _ Q I (rel1 ru) (.inr ⟨i, rfl, c.here hr (.int _) q⟩)
  | _ => exact q.elim
theorem max_one {l : List Int} {m : Int} (hn : l ≠ []) (h1 : m ∈ l) (h2 : ∀ y ∈ l, y ≤ m) : m = maxL l := by
  obtain ⟨a, b⟩ := maxL_mem hn
  have := h2 _ a
  have := b _ h1
  omega
theorem min_one {l : List Int} {m : Int} (hn : l ≠ []) (h1 : m ∈ l) (h2 : ∀ y ∈ l, m ≤ y) : m = minL l := by
  obtain ⟨a, b⟩ := minL_mem hn
  have := h2 _ a
  have := b _ h1
  omega
theorem do_max (hc : X.calm = true) : CallR X (.builtin "max") (liftS X.K maxR) := by
  intro pins s σ H xs us Q I rv hx
  obtain ⟨h, ds, Qd, hr, rs, q, c⟩ := hx
  unfold maxR at q
  split at q
  · rename_i d
    cases e : seqL h d with
    | none => rw [e] at q; exact q.elim
    | some ds =>
      rw [e] at q
      dsimp only at q
      cases e2 : intsOf ds with
      | none => rw [e2] at q; exact q.elim
      | some is =>
        rw [e2] at q
        cases rs with
        | cons r1 r2 =>
          cases r2
          obtain ⟨a, vs, rfl, hs, rs⟩ := seqL_ok hr r1 e
          rw [intsOf_eq e2] at rs
          obtain rfl := rs.toInts
          refine cr_max hc pins s σ H _ _ Q I rv ⟨a, is, rfl, .inl (.inl hs), List.length_pos_iff.mpr q.1, fun m h1 h2 => ?_⟩
          rw [max_one q.1 h1 h2]
          exact c.here hr (.int _) q.2
  · rename_i i j
    cases rs with
    | cons r1 r2 =>
      cases r2 with
      | cons r2 r3 =>
        cases r3
        cases r1; cases r2
        refine call_max2 hc pins s σ H _ _ Q I rv ⟨i, j, rfl, ?_⟩
        have e : (if j > i then j else i) = max i j := by split <;> omega
        rw [e]
        exact c.here hr (.int _) q
  · exact q.elim
theorem do_min (hc : X.calm = true) : CallR X (.builtin "min") (liftS X.K minR) := by
  intro pins s σ H xs us Q I rv hx
  obtain ⟨h, ds, Qd, hr, rs, q, c⟩ := hx
  unfold minR at q
  split at q
  · rename_i d
    cases e : seqL h d with
    | none => rw [e] at q; exact q.elim
    | some ds =>
      rw [e] at q
      dsimp only at q
      cases e2 : intsOf ds with
      | none => rw [e2] at q; exact q.elim
      | some is =>
        rw [e2] at q
        cases rs with
        | cons r1 r2 =>
          cases r2
          obtain ⟨a, vs, rfl, hs, rs⟩ := seqL_ok hr r1 e
          rw [intsOf_eq e2] at rs
          obtain rfl := rs.toInts
          refine cr_min hc pins s σ H _ _ Q I rv ⟨a, is, rfl, .inl (.inl hs), List.length_pos_iff.mpr q.1, fun m h1 h2 => ?_⟩
          rw [min_one q.1 h1 h2]
          exact c.here hr (.int _) q.2
  · rename_i i j
    cases rs with
    | cons r1 r2 =>
      cases r2 with
      | cons r2 r3 =>
        cases r3
        cases r1; cases r2
        refine call_min2 hc pins s σ H _ _ Q I rv ⟨i, j, rfl, ?_⟩
        have e : (if j < i then j else i) = min i j := by split <;> omega
        rw [e]
        exact c.here hr (.int _) q
  · exact q.elim
theorem do_divmod : CallR X (.builtin "divmod") (liftS X.K (two divmodR)) := two_ok fun pins s σ H v v2 u u2 Q h d d2 Qd I ru ru2 hr r r2 q c => by
  cases d with
  | int i =>
    cases d2 with
    | int j =>
      cases r; cases r2
      refine call_divmodW pins s σ H _ _ Q I (rel2 ru ru2) ⟨i, j, rfl, ⟨q.1.1, PyProof.noPylong_of_log2 q.1.2⟩, fun p n => ?_⟩
      exact c.fresh hr n (Rep.newT hr (.cons (.int _) (.cons (.int _) .nil)) n) q.2
    | _ => exact q.elim
  | _ => exact q.elim
theorem do_sorted : CallR X (.builtin "sorted") (liftS X.K (one sortedR)) := one_ok fun pins s σ H v u Q h d Qd I ru hr r q c => by
  unfold sortedR at q
  cases e : seqL h d with
  | none => rw [e] at q; exact q.elim
  | some ds =>
    rw [e] at q
    dsimp only at q
    obtain ⟨a, vs, rfl, hs, rs⟩ := seqL_ok hr r e
    rcases q with ⟨is, e2, hl, q⟩ | ⟨is, e2, hl, q⟩
    · rw [intsOf_eq e2] at rs
      obtain rfl := rs.toInts
      refine cr_sorted pins s σ H _ _ Q I (rel1 ru) ⟨a, is, rfl, .inl (.inl hs), hl, fun ns p h1 h2 n => ?_⟩
      exact c.fresh hr n (Rep.newL hr (Reps.ints ns) n) (q ns h1 h2)
    · rw [strsOf_eq e2] at rs
      obtain rfl := rs.toStrs
      refine cr_sortedS pins s σ H _ _ Q I (rel1 ru) ⟨a, is, rfl, .inl (.inl hs), hl, fun ns p h1 h2 n => ?_⟩
      exact c.fresh hr n (Rep.newL hr (Reps.strs ns) n) (q ns h1 h2)
theorem do_str : CallR X (.type "str") (liftS X.K (one strR)) := one_ok fun pins s σ H v u Q h d Qd I ru hr r q c => by
  cases d with
  | str x => cases r; exact SkE.call_str_str pins s σ H _ _ Q I (rel1 ru) ⟨x, rfl, c.here hr (.str _) q⟩
  | int i => cases r; exact call_str_int pins s σ H _ _ Q I (rel1 ru) ⟨i, rfl, q.1, c.here hr (.str _) q.2⟩
  | _ => exact q.elim
theorem bif_ok (hc : X.calm = true) : ∀ b : Bif, CallR X b.val (liftS X.K (bifR b))
  | .len => do_len
  | .sum => do_sum hc
  | .abs => do_abs
  | .all => do_all hc
  | .any => do_any hc
  | .tuple => do_tuple
  | .list => do_list
  | .int => do_int
  | .max => do_max hc
  | .min => do_min hc
  | .divmod => do_divmod
  | .sorted => do_sorted
  | .str => do_str
theorem bif_boot (b : Bif) : bootBuiltins b.nm = some b.val := by
  cases b <;> decide +kernel
end
/-! ### methods of built-in types -/
inductive Mth where
  | append | join | count | index | upper | split | extend
  deriving DecidableEq
def Mth.nm : Mth → Str
  | .append => "append" | .join => "join" | .count => "count" | .index => "index" | .upper => "upper" | .split => "split" | .extend => "extend"
def Mth.ty : Mth → String
  | .append => "list" | .join => "str" | .count => "list" | .index => "list" | .upper => "str" | .split => "str" | .extend => "list"
def Mth.id : Mth → String
  | .append => "list.append" | .join => "str.join" | .count => "list.count" | .index => "list.index" | .upper => "str.upper" | .split => "str.split" | .extend => "list.extend"
@[reducible] def isTyM : Mth → D → Hd → Prop
  | .append, d, h => ∃ ds, seqL h d = some ds
  | .count, d, h => ∃ ds, seqL h d = some ds
  | .index, d, h => ∃ ds, seqL h d = some ds
  | .extend, d, h => ∃ ds, seqL h d = some ds
  | .join, d, _ => ∃ x, d = .str x
  | .upper, d, _ => ∃ x, d = .str x
  | .split, d, _ => ∃ x, d = .str x
/-- a list that is put behind another: a value, or one that may be changed -/
@[reducible] def lstE (h : Hd) : D → Option (List D)
  | .lst ds => some ds
  | .ref a => match h a with
    | some (.lst ds) => some ds
    | _ => none
  | _ => none
@[reducible] def appR : RD2 := fun x y h Q => match x with
  | .ref a => match h a with
    | some (.lst ds) => ds.length < sizeLine ∧ Q .non (hupd h a (.lst (ds ++ [y])))
    | _ => False
  | _ => False
@[reducible] def joinR : RD2 := fun x y h Q => match x with
  | .str a => match seqA h y with
    | some ds => match strsOf ds with
      | some ys => (ys.map (·.length)).sum + ys.length * a.length ≤ 16777216 ∧ Q (.str (Txt.join a ys)) h
      | none => False
    | none => False
  | _ => False
def idxF (y : D) : List D → Option Nat
  | [] => none
  | d :: ds => if eqF d y = true then some 0 else (idxF y ds).map (· + 1)
def cntF (y : D) (ds : List D) : Nat := ds.countP fun d => eqF d y
@[reducible] def countR : RD2 := fun x y h Q => match seqL h x with
  | some ds => flatD y = true ∧ ds.all flatD = true ∧ Q (.int (cntF y ds : Nat)) h
  | none => False
@[reducible] def indexR : RD2 := fun x y h Q => match seqL h x with
  | some ds => flatD y = true ∧ ds.all flatD = true ∧ match idxF y ds with
    | some j => Q (.int (j : Nat)) h
    | none => False
  | none => False
@[reducible] def upperR : RD1 := fun x h Q => match x with
  | .str a => a.length ≤ 5592405 ∧ Q (.str (Txt.upper a)) h
  | _ => False
@[reducible] def splitR : RD2 := fun x y h Q => match x with
  | .str a => match y with
    | .str b => (b.length == 0) = false ∧ a.length + 2 ≤ sizeLine ∧ Q (.lst ((Txt.split a b).map D.str)) h
    | _ => False
  | _ => False
@[reducible] def extR : RD2 := fun x y h Q => match x with
  | .ref a => match h a with
    | some (.lst ds) => match lstE h y with
      | some es => ds.length + es.length ≤ sizeLine ∧ Q .non (hupd h a (.lst (ds ++ es)))
      | none => False
    | _ => False
  | _ => False
@[reducible] def mthR : Mth → D → List D → Hd → QD → Prop
  | .append => fun x ds h Q => match ds with
    | [y] => appR x y h Q
    | _ => False
  | .join => fun x ds h Q => match ds with
    | [y] => joinR x y h Q
    | _ => False
  | .count => fun x ds h Q => match ds with
    | [y] => countR x y h Q
    | _ => False
  | .index => fun x ds h Q => match ds with
    | [y] => indexR x y h Q
    | _ => False
  | .upper => fun x ds h Q => match ds with
    | [] => upperR x h Q
    | _ => False
  | .split => fun x ds h Q => match ds with
    | [y] => splitR x y h Q
    | _ => False
  | .extend => fun x ds h Q => match ds with
    | [y] => extR x y h Q
    | _ => False
section
variable {X : Cx}
theorem isTyM_ok {m : Mth} {d : D} {h : Hd} {H : Hp} {v : V} (hr : HRel X.K H h) (r : Rep X.K H h d v) (t : isTyM m d h) : tyV X.K m.ty v H := by
  have l : (∃ ds, seqL h d = some ds) → tyV X.K "list" v H := fun ⟨ds, e⟩ => by
    obtain ⟨a, vs, rfl, hs, _⟩ := seqL_ok hr r e
    exact .inl ⟨rfl, vs, .inl (.inl hs)⟩
  have st : (∃ x, d = .str x) → tyV X.K "str" v H := fun ⟨x, e⟩ => by
    subst e
    cases r
    exact rfl
  cases m <;> first | exact l t | exact st t
theorem do_append {pins : List (Addr × Obj)} {s : Shared} {σ : L2.St} {H : Hp} {v v2 : V} {u u2 : Value} {Q : VK} {h : Hd} {x y : D} {Qd : QD} (I : Inv X pins σ H s) (ru : RelV v u) (ru2 : RelV v2 u2) (hr : HRel X.K H h) (r : Rep X.K H h x v) (r2 : Rep X.K H h y v2) (q : appR x y h Qd) (c : Cl X.K h H Qd Q) :
    wpAny (model X.prog X.w) X.A (call (.builtin "list.append") [u, u2]) (EP X pins σ Q) X.xe s := by
  unfold appR at q
  split at q
  · rename_i a
    cases r
    split at q
    · rename_i ds e
      obtain ⟨vs, e1, r1⟩ := hr a _ e
      refine mt_append pins s σ H _ _ _ _ Q I ru (rel1 ru2) ⟨a, vs, v2, rfl, rfl, e1, by rw [← r1.length]; exact q.1, ?_⟩
      refine c .non (hupd h a (.lst (ds ++ [y]))) _ _ (Frm.put e (fun z => nomatch z)) (hr.put e (fun z => nomatch z) ?_) .non q.2
      exact ⟨_, upd_same, (r1.append (.cons r2 .nil)).frm (Frm.put e (fun z => nomatch z))⟩
    · exact q.elim
  · exact q.elim
theorem do_join {pins : List (Addr × Obj)} {s : Shared} {σ : L2.St} {H : Hp} {v v2 : V} {u u2 : Value} {Q : VK} {h : Hd} {x y : D} {Qd : QD} (I : Inv X pins σ H s) (ru : RelV v u) (ru2 : RelV v2 u2) (hr : HRel X.K H h) (r : Rep X.K H h x v) (r2 : Rep X.K H h y v2) (q : joinR x y h Qd) (c : Cl X.K h H Qd Q) :
    wpAny (model X.prog X.w) X.A (call (.builtin "str.join") [u, u2]) (EP X pins σ Q) X.xe s := by
  unfold joinR at q
  split at q
  · cases r
    split at q
    · rename_i ds e
      split at q
      · rename_i ys e2
        obtain ⟨a, vs, rfl, hs, rs⟩ := seqA_ok hr r2 e
        rw [strsOf_eq e2] at rs
        obtain rfl := rs.toStrs
        exact mt_join pins s σ H _ _ _ _ Q I ru (rel1 ru2) ⟨_, a, ys, rfl, rfl, hs, q.1, c.here hr (.str _) q.2⟩
      · exact q.elim
    · exact q.elim
  · exact q.elim
theorem mth_one {id : String} {r : RD2} (h : ∀ {pins : List (Addr × Obj)} {s : Shared} {σ : L2.St} {H : Hp} {v v2 : V} {u u2 : Value} {Q : VK} {h : Hd} {x y : D} {Qd : QD}, Inv X pins σ H s → RelV v u → RelV v2 u2 → HRel X.K H h → Rep X.K H h x v → Rep X.K H h y v2 → r x y h Qd → Cl X.K h H Qd Q →
    wpAny (model X.prog X.w) X.A (call (.builtin id) [u, u2]) (EP X pins σ Q) X.xe s) : MtR X id (liftM X.K fun x ds h Q => match ds with
    | [y] => r x y h Q
    | _ => False) := by
  intro pins s σ H x xs v us Q I rx rxs hx
  obtain ⟨hd, d, ds, Qd, hr, rd, rds, q, c⟩ := hx
  cases rds with
  | nil => exact q.elim
  | cons r1 r2 =>
    cases r2 with
    | cons _ _ => exact q.elim
    | nil =>
      obtain ⟨u, rfl, ru⟩ := vals1 rxs
      exact h I rx ru hr rd r1 q c
theorem eqU_cnt {y : D} {u : V} {H : Hp} {h : Hd} (fy : flatD y = true) (ry : Rep X.K H h y u) : ∀ {ds : List D} {vs : List V} {its : List Value}, ds.all flatD = true → Reps X.K H h ds vs → Vals vs its → its.countP (eqU u) = cntF y ds
  | _, _, _, _, .nil, .nil => rfl
  | d :: ds, v :: vs, w :: ws, f, .cons r rr, .cons q qq => by
    rw [List.all_cons, Bool.and_eq_true] at f
    have ih := eqU_cnt fy ry f.2 rr qq
    unfold cntF at ih ⊢
    rw [List.countP_cons, List.countP_cons, ih, eqU_of q (flat_ok f.1 r), eqF_ok fy f.1 ry r]
theorem do_count {pins : List (Addr × Obj)} {s : Shared} {σ : L2.St} {H : Hp} {v v2 : V} {u u2 : Value} {Q : VK} {h : Hd} {x y : D} {Qd : QD} (I : Inv X pins σ H s) (ru : RelV v u) (ru2 : RelV v2 u2) (hr : HRel X.K H h) (r : Rep X.K H h x v) (r2 : Rep X.K H h y v2) (q : countR x y h Qd) (c : Cl X.K h H Qd Q) :
    wpAny (model X.prog X.w) X.A (call (.builtin "list.count") [u, u2]) (EP X pins σ Q) X.xe s := by
  unfold countR at q
  split at q
  · rename_i ds e
    obtain ⟨fy, fs, q⟩ := q
    obtain ⟨a, vs, rfl, hs, rs⟩ := seqL_ok hr r e
    cases ru
    obtain ⟨its, rv, ⟨⟨cls, dd, data, sl⟩, n, ho, hc, hdn, hd⟩, hlen⟩ := I.list (.inl (.inl hs))
    simp only at hc hd
    subst hc hd
    refine call_meets PySem.F.slot_list_count ⟨_, ho, rfl⟩ PySem.F.entry_list_count (PySem.F.args_list_count_2 _ _)
      (SeqAt.list_countAt a its.toArray n dd sl u2 (eqU v2)) ⟨ho, fun u' hu' => mem_eqAt ru2 (flat_ok fy r2) rv (flats_ok fs rs) u' (by simpa using hu'), ?_⟩
    refine ⟨.int (cntF y ds : Nat), H, I.tok _, ⟨s.toks, ?_⟩, c.here hr (.int _) q⟩
    show Value.int ((its.toArray.toList.countP (eqU v2) : Nat) : Int) s.toks = _
    rw [show its.toArray.toList = its from rfl, eqU_cnt fy r2 fs rs rv]
  · exact q.elim
theorem idx_ok {y : D} {u : V} {H : Hp} {h : Hd} (fy : flatD y = true) (ry : Rep X.K H h y u) : ∀ {ds : List D} {vs : List V} {j : Nat}, ds.all flatD = true → Reps X.K H h ds vs → idxF y ds = some j → (∃ z, vs[j]? = some z ∧ eqV z u = true) ∧ ∀ (m : Nat) z, m < j → vs[m]? = some z → eqV z u = false
  | [], _, _, _, _, e => by cases e
  | d :: ds, v :: vs, j, f, .cons r rr, e => by
    rw [List.all_cons, Bool.and_eq_true] at f
    have e0 := eqF_ok fy f.1 ry r
    unfold idxF at e
    split at e
    · rename_i q
      cases e
      exact ⟨⟨v, rfl, by rw [e0]; exact q⟩, fun m z hm => by omega⟩
    · rename_i q
      cases p : idxF y ds with
      | none => rw [p] at e; cases e
      | some i =>
        rw [p] at e
        cases e
        obtain ⟨⟨z, h1, h2⟩, h3⟩ := idx_ok fy ry f.2 rr p
        refine ⟨⟨z, by simpa using h1, h2⟩, fun m z' hm hz => ?_⟩
        cases m with
        | zero =>
          simp at hz
          subst hz
          rw [e0]; simpa using q
        | succ m => exact h3 m z' (Nat.lt_of_succ_lt_succ hm) (by simpa using hz)
theorem do_index {pins : List (Addr × Obj)} {s : Shared} {σ : L2.St} {H : Hp} {v v2 : V} {u u2 : Value} {Q : VK} {h : Hd} {x y : D} {Qd : QD} (I : Inv X pins σ H s) (ru : RelV v u) (ru2 : RelV v2 u2) (hr : HRel X.K H h) (r : Rep X.K H h x v) (r2 : Rep X.K H h y v2) (q : indexR x y h Qd) (c : Cl X.K h H Qd Q) :
    wpAny (model X.prog X.w) X.A (call (.builtin "list.index") [u, u2]) (EP X pins σ Q) X.xe s := by
  unfold indexR at q
  split at q
  · rename_i ds e
    obtain ⟨fy, fs, q⟩ := q
    split at q
    · rename_i j ej
      obtain ⟨a, vs, rfl, hs, rs⟩ := seqL_ok hr r e
      obtain ⟨⟨z, h1, h2⟩, h3⟩ := idx_ok fy r2 fs rs ej
      exact mt_index pins s σ H _ _ _ _ Q I ru (rel1 ru2) ⟨a, vs, v2, j, z, rfl, rfl, .inl (.inl hs), flat_ok fy r2, flats_ok fs rs, h1, h2, h3, c.here hr (.int _) q⟩
    · exact q.elim
  · exact q.elim
theorem do_split {pins : List (Addr × Obj)} {s : Shared} {σ : L2.St} {H : Hp} {v v2 : V} {u u2 : Value} {Q : VK} {h : Hd} {x y : D} {Qd : QD} (I : Inv X pins σ H s) (ru : RelV v u) (ru2 : RelV v2 u2) (hr : HRel X.K H h) (r : Rep X.K H h x v) (r2 : Rep X.K H h y v2) (q : splitR x y h Qd) (c : Cl X.K h H Qd Q) :
    wpAny (model X.prog X.w) X.A (call (.builtin "str.split") [u, u2]) (EP X pins σ Q) X.xe s := by
  cases x with
  | str a =>
    cases y with
    | str b =>
      cases r; cases r2
      obtain ⟨q1, q2, q3⟩ := q
      refine mt_split pins s σ H _ _ _ _ Q I ru (rel1 ru2) ⟨a, b, rfl, rfl, q1, q2, fun p n => ?_⟩
      exact c.fresh hr n (Rep.newL hr (Reps.strs _) n) q3
    | _ => exact q.elim
  | _ => exact q.elim
theorem do_extend {pins : List (Addr × Obj)} {s : Shared} {σ : L2.St} {H : Hp} {v v2 : V} {u u2 : Value} {Q : VK} {h : Hd} {x y : D} {Qd : QD} (I : Inv X pins σ H s) (ru : RelV v u) (ru2 : RelV v2 u2) (hr : HRel X.K H h) (r : Rep X.K H h x v) (r2 : Rep X.K H h y v2) (q : extR x y h Qd) (c : Cl X.K h H Qd Q) :
    wpAny (model X.prog X.w) X.A (call (.builtin "list.extend") [u, u2]) (EP X pins σ Q) X.xe s := by
  unfold extR at q
  split at q
  · rename_i a
    cases r
    split at q
    · rename_i ds e
      split at q
      · rename_i es e2
        obtain ⟨vs, e1, rs⟩ := hr a _ e
        have hy : ∃ b us, v2 = .ref b ∧ H b = some (.lst us) ∧ Reps X.K H h es us := by
          cases y with
          | lst es' =>
            cases e2
            cases r2 with
            | lst e3 n r => exact ⟨_, _, rfl, e3, r⟩
          | ref b =>
            cases r2
            unfold lstE at e2
            dsimp only at e2
            split at e2
            · rename_i es' e3
              cases e2
              obtain ⟨us, e4, rs4⟩ := hr b _ e3
              exact ⟨b, us, rfl, e4, rs4⟩
            · cases e2
          | _ => cases e2
        obtain ⟨b, us, rfl, e3, rs2⟩ := hy
        have f := Frm.put (H := H) (o := HO.lst (vs ++ us)) (d := D.lst (ds ++ es)) e (fun z => nomatch z)
        refine mt_extend pins s σ H _ _ _ _ Q I ru (rel1 ru2) ⟨a, b, vs, us, rfl, rfl, e1, e3, by rw [← rs.length, ← rs2.length]; exact q.1, ?_⟩
        exact c _ _ _ _ f (hr.put e (fun z => nomatch z) ⟨_, upd_same, (rs.append rs2).frm f⟩) .non q.2
      · exact q.elim
    · exact q.elim
  · exact q.elim
theorem mth_ok : ∀ m : Mth, MtR X m.id (liftM X.K (mthR m))
  | .append => mth_one do_append
  | .join => mth_one do_join
  | .count => mth_one do_count
  | .index => mth_one do_index
  | .split => mth_one do_split
  | .extend => mth_one do_extend
  | .upper => by
    intro pins s σ H x xs v us Q I rx rxs hx
    obtain ⟨hd, d, ds, Qd, hr, rd, rds, q, c⟩ := hx
    cases rds with
    | cons _ _ => exact q.elim
    | nil =>
      cases rxs
      cases d with
      | str a => cases rd; exact mt_upper pins s σ H _ _ _ _ Q I rx .nil ⟨a, rfl, rfl, q.1, c.here hr (.str _) q.2⟩
      | _ => exact q.elim
theorem mth_pa (m : Mth) : PlainAttrs m.ty := by cases m <;> first | exact F.plainAttrs_list | exact F.plainAttrs_str
theorem mth_slot : ∀ m : Mth, Slot m.ty m.nm m.id
  | .append => F.slot_list_append
  | .join => F.slot_str_join
  | .count => F.slot_list_count
  | .index => F.slot_list_index
  | .split => F.slot_str_split
  | .extend => F.slot_list_extend
  | .upper => F.slot_str_upper
theorem mth_type : ∀ m : Mth, typeOf (.builtin m.id) = pure (.type "method_descriptor")
  | .append => F.type_list_append
  | .join => F.type_str_join
  | .count => F.type_list_count
  | .index => F.type_list_index
  | .split => F.type_str_split
  | .extend => F.type_list_extend
  | .upper => F.type_str_upper
end
end Y
namespace Y
open PySem PySem.Spec PyProof.Rows L2

/-! ### the small syntax -/
inductive Op2 where
  | add | sub | mul | fdiv | mod | pow | addM
  deriving DecidableEq
inductive Ty where
  | int | bool | str | tuple | list
  deriving DecidableEq
/-- special methods -/
inductive Spk where
  | len | str | repr | fmt
  deriving DecidableEq
/-- plain forms: the parts are worked out from the left, then this -/
inductive Prm where
  | new (C : Str) (f s : Nat)
  | fv | js
  | own (k : Spk) (C : Str) (f s : Nat)
  | isc (C : Str) | isb (n : Str)
  | xf (f : Str)
  | dnew
  deriving DecidableEq
/-- raise C(..): C without, with an own __init__ that keeps one field -/
inductive Rk where
  | cls (C : Str) | fld (C f : Str)
mutual
inductive E where
  | non | bl (b : Bool) | int (i : Int) | str (x : Str)
  | loc (i : Nat) | glo (k : Nat)
  | op (o : Op2) (a b : E) | neg (a : E)
  | cmp (c : CmpOp) (a b : E) | chn (c c' : CmpOp) (a b d : E)
  | andE (a b : E) | orE (a b : E) | notE (a : E) | ife (c a b : E)
  | tup (es : Es) | lst (m : Bool) (es : Es)
  | ix (a i : E) | slc (a l u : E) | rev (a : E)
  | bif (b : Bif) (as : Es) | isi (a : E) (t : Ty)
  | call (f sh : Nat) (as kas : Es)
  | mth (o : E) (m : Mth) (as : Es)
  | comp (m : Bool) (own : List Nat) (e : E) (t : Tg) (it : It) (cs : Es)
  | frz (a : E)
  | fld (a : E) (j : Nat) (f : Str)
  | mcl (o : E) (C m : Str) (f s : Nat) (as kas : Es)
  | cmpO (c : CmpOp) (C : Str) (f s : Nat) (a b : E)
  | prm (p : Prm) (as kas : Es)
inductive Es where
  | nil | cons (e : E) (r : Es)
inductive Tg where
  | nm (i : Nat) | tp (ts : Tgs) | sb (a i : E)
inductive Tgs where
  | nil | cons (t : Tg) (r : Tgs)
inductive It where
  | seq (a : E) | rg1 (a : E) | rg2 (a b : E) | rg3 (a b c : E) | enm (a : E) | zip (a b : E)
end
mutual
inductive S where
  | asg (t : Tg) (e : E) | par (is : List Nat) (es : Es)
  | aug (i : Nat) (o : Op2) (e : E) | augS (a i : E) (o : Op2) (e : E)
  | ifS (c : E) (a b : Ss) | whl (c : E) (b : Ss) | forS (t : Tg) (it : It) (b : Ss)
  | ret (e : E) | retN | expr (e : E) | pass | brk | cnt | never
  | frz (i : Nat)
  | fldS (a : E) (f : Str) (e : E)
  | fldA (a : E) (j : Nat) (f : Str) (o : Op2) (e : E)
  | raise (r : Rk) (as : Es)
  | tryK (b : Ss) (c : Str) (i j : Nat)
  | tryL (b : Ss) (cs : List Str) (i j : Nat)
inductive Ss where
  | nil | cons (s : S) (r : Ss)
end

/-! ### what is promised of a def, by data -/
abbrev Spec := List D → Hd → QD → QX → Prop
/-- how arguments come to parameters -/
inductive Src where
  | p (i : Nat) | k (i : Nat) | cn | cb (b : Bool) | ci (i : Int) | cs (x : Str)
def Src.d (ds es : List D) : Src → Option D
  | .p i => ds[i]?
  | .k i => es[i]?
  | .cn => some .non
  | .cb b => some (.bl b)
  | .ci i => some (.int i)
  | .cs x => some (.str x)
def Src.v (vs ws : List V) : Src → Option V
  | .p i => vs[i]?
  | .k i => ws[i]?
  | .cn => some .non
  | .cb b => some (.bl b)
  | .ci i => some (.int i)
  | .cs x => some (.str x)
structure Shape where
  n : Nat
  ks : List Str
  pl : List Src
structure FnI where
  name : Str
  ps : List Str
  shapes : List Shape
  own : Option (Str × Str) := none
def pickD (pl : List Src) (ds es : List D) : Option (List D) := pl.mapM (Src.d ds es)
def pickV (pl : List Src) (vs ws : List V) : Option (List V) := pl.mapM (Src.v vs ws)
/-- the program, for the walk: promises, constants, shapes -/
structure Prg where
  Φ : Nat → Spec
  Γ : Nat → D
  sh : Nat → Nat → Shape
  fl : Str → Str → Bool := fun _ _ => false
  /-- own exception classes: the first stands under the second -/
  sub : Str → Str → Option Bool := fun _ _ => none
  /-- .. under a built-in class -/
  subB : Str → Str → Option Bool := fun _ _ => none
  /-- other own classes -/
  oc : Str → Bool := fun _ => false
  /-- exceptions' fields that may be read -/
  xfl : Str → Str → Bool := fun _ _ => false
  /-- plain things may be asked whether they are of an own class -/
  kt : Bool := true

/-! ### what must hold -/
/-- two lists side by side: a new one that may be changed -/
@[reducible] def addM : RD2 := fun x y h Q => match seqL h x, seqL h y with
  | some ds, some es => ds.length + es.length ≤ sizeLine ∧ ∀ a, h a = none → Q (.ref a) (hupd h a (.lst (ds ++ es)))
  | _, _ => False
@[reducible] def opR : Op2 → RD2
  | .addM => addM
  | .add => addR | .sub => subR | .mul => mulR | .fdiv => fdivR | .mod => modR | .pow => powR
@[reducible] def cmpR : CmpOp → RD2
  | .Eq => eqR | .NotEq => neR | .Lt => ltR | .LtE => leR | .Gt => gtR | .GtE => geR | .Is => isR | .IsNot => isnR | .In => inR | .NotIn => ninR
/-- a yes or no -/
@[reducible] def blQ (Q : Bool → Hd → Prop) : QD := fun d h => match d with
  | .bl b => Q b h
  | _ => False
@[reducible] def tyIs : Ty → D → Option Bool
  | t, .non => some false
  | t, .bl _ => some (match t with | .int => true | .bool => true | _ => false)
  | t, .int _ => some (match t with | .int => true | _ => false)
  | t, .str _ => some (match t with | .str => true | _ => false)
  | t, .tup _ => some (match t with | .tuple => true | _ => false)
  | t, .lst _ => some (match t with | .list => true | _ => false)
  | _, .dct _ _ => some false
  | _, _ => none
@[reducible] def isiR (t : Ty) : RD1 := fun d h Q => match tyIs t d with
  | some b => Q (.bl b) h
  | none => False
@[reducible] def isNonE : E → Bool
  | .non => true
  | _ => false
/-- a bound of a slice: none is written, or an int -/
@[reducible] def sizeOpt (l : Bool) (d : D) : Option (Option Int) := match l with
  | true => some none
  | false => match d with
    | .int i => some (some i)
    | _ => none
/-- a new list: a value, or one that may be changed -/
@[reducible] def mkL : Bool → List D → Hd → QD → Prop
  | true => fun ds h Q => ∀ a, h a = none → Q (.ref a) (hupd h a (.lst ds))
  | false => fun ds h Q => Q (.lst ds) h
/-- the end of a comprehension: what it made, at the address where it was made -/
@[reducible] def endC : Bool → Addr → List D → Hd → QD → Prop
  | true => fun a ys h Q => Q (.ref a) (hupd h a (.lst ys))
  | false => fun a ys h Q => Q (.lst ys) (hdel h a)
/-- a name's value; a name gets a value -/
@[reducible] def lk : DEnv → Nat → Option D
  | [], _ => none
  | o :: _, 0 => o
  | _ :: r, n + 1 => lk r n
@[reducible] def stE : DEnv → Nat → D → DEnv
  | [], _, _ => []
  | _ :: r, 0, d => some d :: r
  | o :: r, n + 1, d => o :: stE r n d
/-- the same, walked to the place -/
@[reducible] def stK : DEnv → Nat → D → (DEnv → Prop) → Prop
  | [], _, _, k => k []
  | _ :: r, 0, d, k => k (some d :: r)
  | o :: r, n + 1, d, k => stK r n d fun r' => k (o :: r')
@[reducible] def noE : DEnv → Nat → DEnv
  | [], _ => []
  | _ :: r, 0 => none :: r
  | o :: r, n + 1 => o :: noE r n
theorem stK_eq : ∀ {ρ : DEnv} {i : Nat} {d : D} {k : DEnv → Prop}, stK ρ i d k = k (stE ρ i d)
  | [], _, _, _ => rfl
  | _ :: _, 0, _, _ => rfl
  | o :: r, n + 1, d, k => stK_eq (ρ := r) (i := n) (d := d) (k := fun r' => k (o :: r'))
theorem noE_set : ∀ {ρ : DEnv} {i : Nat}, noE ρ i = ρ.set i none
  | [], _ => rfl
  | _ :: _, 0 => rfl
  | o :: r, n + 1 => congrArg (o :: ·) (noE_set (ρ := r) (i := n))
theorem lk_get : ∀ {ρ : DEnv} {i : Nat} {d : D}, lk ρ i = some d → ρ[i]? = some (some d)
  | [], _, _, e => by cases e
  | o :: _, 0, d, e => by have e : o = some d := e; rw [e]; rfl
  | _ :: r, n + 1, d, e => by rw [List.getElem?_cons_succ]; exact lk_get (ρ := r) e
theorem stE_set : ∀ {ρ : DEnv} {i : Nat} {d : D}, stE ρ i d = ρ.set i (some d)
  | [], _, _ => rfl
  | _ :: _, 0, _ => rfl
  | o :: r, n + 1, d => congrArg (o :: ·) (stE_set (ρ := r) (i := n) (d := d))
@[reducible] def wipeE (ρ : DEnv) : List Nat → DEnv
  | [] => ρ
  | i :: is => noE (wipeE ρ is) i
@[reducible] def frzR : RD1 := fun d h Q => match d with
  | .ref a => match h a with
    | some (.lst ds) => Q (.lst ds) (hdel h a)
    | some (.ins C ns ds) => Q (.ins C ns ds) (hdel h a)
    | some (.dct ks ds) => Q (.dct ks ds) (hdel h a)
    | _ => False
  | d => Q d h
@[reducible] def revR : RD1 := fun d h Q => match d with
  | .tup ds => Q (.tup ds.reverse) h
  | d => match seqL h d with
    | some ds => Q (.lst ds.reverse) h
    | none => False
/-- the turns of a comprehension: ds to come, acc made -/
def loopC (t : D → DEnv → Hd → (DEnv → Hd → Prop) → QX → Prop) (c : DEnv → Hd → (Bool → Hd → Prop) → QX → Prop) (e : TD) (ρ : DEnv) (Q : List D → Hd → Prop) : List D → List D → Hd → Prop
  | [], acc, h => Q acc h
  | d :: ds, acc, h => t d ρ h (fun ρ1 h1 => c ρ1 h1 (fun b h2 => if b = true then e ρ1 h2 (fun y h3 => acc.length < sizeLine ∧ loopC t c e ρ Q ds (acc ++ [y]) h3) (fun _ _ => False) else loopC t c e ρ Q ds acc h2) (fun _ _ => False)) (fun _ _ => False)
@[reducible] def asInt (d : D) (Q : Int → Prop) : Prop := match d with
  | .int i => Q i
  | _ => False
theorem asInt_elim {d : D} {Q : Int → Prop} (h : asInt d Q) : ∃ i, d = .int i ∧ Q i := by
  cases d <;> first | exact ⟨_, rfl, h⟩ | exact h.elim
def rangeD (lo : Int) (n : Nat) (c : Int) : List D := (List.range n).map fun i : Nat => .int (lo + (i : Int) * c)
def inRange (i : Int) : Prop := -(2 ^ 62) ≤ i ∧ i < 2 ^ 62
/-- how many turns -/
def rgCount (i j c : Int) : Nat := if 0 < c then ((j - i + c - 1) / c).toNat else ((i - j + (-c) - 1) / (-c)).toNat
def enumD (ds : List D) : List D := ds.zipIdx.map fun p => .tup [.int p.2, p.1]
def zipD (ds es : List D) : List D := (ds.zip es).map fun p => .tup [p.1, p.2]
/-- a sequence that stays: a tuple, a list as a value, the script -/
@[reducible] def seqF : D → Option (List D)
  | .tup ds => some ds
  | .lst ds => some ds
  | .scr is => some (is.map D.int)
  | _ => none
/-- the signs of a text -/
def chs (x : Str) : List D := x.cps.toList.map fun c => .str ⟨#[c]⟩
/-- what is walked -/
@[reducible] def seqW : D → Option (List D)
  | .str x => some (chs x)
  | d => seqF d
/-- a list that stays -/
@[reducible] def lstF : D → Option (List D)
  | .lst ds => some ds
  | .scr is => some (is.map D.int)
  | _ => none
@[reducible] def setR (o i v : D) (h : Hd) (Q : Hd → Prop) : Prop := match o, i with
  | .ref a, .int k => match h a with
    | some (.lst ds) => match ixN ds.length k with
      | some j => Q (hupd h a (.lst (ds.set j v)))
      | none => False
    | _ => False
  | _, _ => False
@[reducible] def getR : RD2 := fun o i h Q => match o, i with
  | .ref a, .int k => match h a with
    | some (.lst ds) => match atI ds k with
      | some d => Q d h
      | none => False
    | _ => False
  | _, _ => False
@[reducible] def Tgs.len : Tgs → Nat
  | .nil => 0
  | .cons _ r => r.len + 1
/-- an instance: a value, or one that may be changed -/
@[reducible] def insOf (h : Hd) : D → Option (Str × List Str × List D)
  | .ins C ns ds => some (C, ns, ds)
  | .ref a => match h a with
    | some (.ins C ns ds) => some (C, ns, ds)
    | _ => none
  | _ => none
def posF (f : Str) : List Str → Option Nat
  | [] => none
  | n :: ns => if n = f then some 0 else (posF f ns).map (· + 1)
@[reducible] def nth : List D → Nat → Option D
  | [], _ => none
  | d :: _, 0 => some d
  | _ :: r, n + 1 => nth r n
@[reducible] def fldR (fl : Str → Str → Bool) (f : Str) (j : Nat) : RD1 := fun d h Q => match insOf h d with
  | some (C, ns, ds) => fl C f = true ∧ posF f ns = some j ∧ match nth ds j with
    | some x => Q x h
    | none => False
  | none => False
/-- an instance's field is written -/
def putN (f : Str) : List Str → List Str
  | [] => [f]
  | n :: ns => if n = f then n :: ns else n :: putN f ns
def putDs (f : Str) (d : D) : List Str → List D → List D
  | [], _ => [d]
  | _ :: _, [] => []
  | n :: ns, x :: ds => if n = f then d :: ds else x :: putDs f d ns ds
@[reducible] def putR (fl : Str → Str → Bool) (f : Str) (o d : D) (h : Hd) (Q : Hd → Prop) : Prop := match o with
  | .ref a => match h a with
    | some (.ins C ns ds) => fl C f = true ∧ ns.length < 1000 ∧ Q (hupd h a (.ins C (putN f ns) (putDs f d ns ds)))
    | _ => False
  | _ => False
/-- a call of the text's own def: f its number, s the shape of the call -/
def callD (G : Prg) (f s : Nat) (ds es : List D) (h : Hd) (Q : QD) (X : QX) : Prop := ds.length = (G.sh f s).n ∧ es.length = (G.sh f s).ks.length ∧ match pickD (G.sh f s).pl ds es with
  | some xs => G.Φ f xs h Q X
  | none => False
/-- the result of a special method -/
@[reducible] def spkQ : Spk → QD → QD
  | .len => fun Q v h => match v with
    | .int n => 0 ≤ n ∧ n < 2 ^ 62 ∧ Q (.int n) h
    | _ => False
  | _ => fun Q v h => match v with
    | .str x => x.length ≤ sizeLine ∧ Q (.str x) h
    | _ => False
@[reducible] def strsL : List D → Option (List Str)
  | [] => some []
  | .str x :: r => match strsL r with
    | some l => some (x :: l)
    | none => none
  | _ :: _ => none
def catL (l : List Str) : Str := l.foldl (· ++ ·) Str.empty
@[reducible] def fvR : RD1 := fun d h Q => match d with
  | .str x => x.length ≤ sizeLine ∧ Q (.str x) h
  | .int i => i.natAbs.log2 < 1920 ∧ Q (.str (toString i)) h
  | _ => False
@[reducible] def jsR : RDs := fun ds h Q => match strsL ds with
  | some l => (catL l).length ≤ sizeLine ∧ Q (.str (catL l)) h
  | none => False
@[reducible] def plQ (G : Prg) : Option Bool := match G.kt with
  | true => some false
  | false => none
/-- isinstance(x, C), C an own class -/
@[reducible] def iscQ (G : Prg) (c : Str) (d : D) (h : Hd) : Option Bool := match d with
  | .exc k _ _ => G.sub k c
  | .ins k _ _ => if G.oc c = true ∧ G.oc k = true then some (decide (k = c)) else none
  | .ref a => match h a with
    | some (.ins k _ _) => if G.oc c = true ∧ G.oc k = true then some (decide (k = c)) else none
    | some (.lst _) => plQ G
    | _ => none
  | .scr _ => none
  | _ => plQ G
@[reducible] def isbQ (G : Prg) (c : Str) (d : D) (h : Hd) : Option Bool := match d with
  | .exc k _ _ => G.subB k c
  | .ins _ _ _ => none
  | .ref _ => none
  | .scr _ => none
  | _ => some false
@[reducible] def boQ (o : Option Bool) (h : Hd) (Q : QD) : Prop := match o with
  | some b => Q (.bl b) h
  | none => False
@[reducible] def xfR (G : Prg) (f : Str) : RD1 := fun d h Q => match d with
  | .exc k ns ds => G.xfl k f = true ∧ match posF f ns with
    | some j => match nth ds j with
      | some x => Q x h
      | none => False
    | none => False
  | _ => False
@[reducible] def prmR (G : Prg) : Prm → List D → List D → Hd → QD → QX → Prop
  | .new c f s => fun ds es h Q X => ∀ a, h a = none → callD G f s (.ref a :: ds) es (hupd h a (.ins c [] [])) (fun v h3 => match v with | .non => Q (.ref a) h3 | _ => False) X
  | .fv => fun ds _ h Q _ => one fvR ds h Q
  | .js => fun ds _ h Q _ => jsR ds h Q
  | .own k c f s => fun ds _ h Q X => match ds with
    | [x] => match insOf h x with
      | some (c', _, _) => c' = c ∧ callD G f s [x] [] h (spkQ k Q) X
      | none => False
    | _ => False
  | .isc c => fun ds _ h Q _ => match ds with
    | [x] => boQ (iscQ G c x h) h Q
    | _ => False
  | .isb c => fun ds _ h Q _ => match ds with
    | [x] => boQ (isbQ G c x h) h Q
    | _ => False
  | .xf f => fun ds _ h Q _ => one (xfR G f) ds h Q
  | .dnew => fun _ _ h Q _ => Q (.dct [] []) h
/-- == and != by an own __eq__ of the left -/
@[reducible] def cmpOR (G : Prg) (c : CmpOp) (C : Str) (f s : Nat) : RD2 := fun x y h Q => match insOf h x with
  | some (c', _, _) => c' = C ∧ callD G f s [x, y] [] h (fun v h1 => match v with
    | .bl b => Q (.bl (match c with | .NotEq => !b | _ => b)) h1
    | _ => False) (fun _ _ => False)
  | none => False
mutual
@[reducible] def wpE (G : Prg) : E → TD
  | .non => fun _ h Q _ => Q .non h
  | .bl b => fun _ h Q _ => Q (.bl b) h
  | .int i => fun _ h Q _ => Q (.int i) h
  | .str x => fun _ h Q _ => Q (.str x) h
  | .loc i => fun ρ h Q _ => match lk ρ i with
    | some d => Q d h
    | _ => False
  | .glo k => fun _ h Q _ => Q (G.Γ k) h
  | .op o a b => fun ρ h Q X => wpE G a ρ h (fun x h1 => wpE G b ρ h1 (fun y h2 => opR o x y h2 Q) X) X
  | .neg a => fun ρ h Q X => wpE G a ρ h (fun x h1 => match x with | .int i => Q (.int (-i)) h1 | _ => False) X
  | .cmp c a b => fun ρ h Q X => wpE G a ρ h (fun x h1 => wpE G b ρ h1 (fun y h2 => cmpR c x y h2 Q) X) X
  | .chn c c' a b d => fun ρ h Q X => wpE G a ρ h (fun x h1 => wpE G b ρ h1 (fun y h2 => cmpR c x y h2 (fun r h3 => match r with
      | .bl k => if k = true then wpE G d ρ h3 (fun z h4 => cmpR c' y z h4 Q) X else Q (.bl false) h3
      | _ => False)) X) X
  | .andE a b => fun ρ h Q X => wpE G a ρ h (fun x h1 => truQ x h1 fun k => if k = true then wpE G b ρ h1 Q X else Q x h1) X
  | .orE a b => fun ρ h Q X => wpE G a ρ h (fun x h1 => truQ x h1 fun k => if k = true then Q x h1 else wpE G b ρ h1 Q X) X
  | .notE a => fun ρ h Q X => wpE G a ρ h (fun x h1 => truQ x h1 fun k => Q (.bl (!k)) h1) X
  | .ife c a b => fun ρ h Q X => wpT G c ρ h (fun k h1 => if k = true then wpE G a ρ h1 Q X else wpE G b ρ h1 Q X) X
  | .tup es => fun ρ h Q X => wpA G es ρ h (fun ds h1 => ds.length ≤ sizeLine ∧ Q (.tup ds) h1) X
  | .lst m es => fun ρ h Q X => wpA G es ρ h (fun ds h1 => ds.length ≤ sizeLine ∧ mkL m ds h1 Q) X
  | .ix a i => fun ρ h Q X => wpE G a ρ h (fun x h1 => wpE G i ρ h1 (fun y h2 => ixR x y h2 Q) X) X
  | .slc a l u => fun ρ h Q X => wpE G a ρ h (fun x h1 => wpE G l ρ h1 (fun y h2 => match sizeOpt (isNonE l) y with
      | some lo => wpE G u ρ h2 (fun z h3 => match sizeOpt (isNonE u) z with
        | some hi => slR x lo hi h3 Q
        | none => False) X
      | none => False) X) X
  | .rev a => fun ρ h Q X => wpE G a ρ h (fun x h1 => revR x h1 Q) X
  | .bif b as => fun ρ h Q X => wpA G as ρ h (fun ds h1 => bifR b ds h1 Q) X
  | .isi a t => fun ρ h Q X => wpE G a ρ h (fun x h1 => isiR t x h1 Q) X
  | .call f s as kas => fun ρ h Q X => wpA G as ρ h (fun ds h1 => wpA G kas ρ h1 (fun es h2 => callD G f s ds es h2 Q X) X) X
  | .mth o m as => fun ρ h Q X => wpE G o ρ h (fun x h1 => isTyM m x h1 ∧ wpA G as ρ h1 (fun ds h2 => mthR m x ds h2 Q) X) X
  | .comp m own e t it cs => fun ρ h Q X => wpI G it ρ h (fun ds h1 => ∀ D, h1 D = none →
      loopC (wpG G t) (wpC G cs) (wpE G e) (wipeE ρ own) (fun ys h2 => endC m D ys h2 Q) ds [] (hupd h1 D .non)) X
  | .frz a => fun ρ h Q X => wpE G a ρ h (fun x h1 => frzR x h1 Q) X
  | .fld a j f => fun ρ h Q X => wpE G a ρ h (fun x h1 => fldR G.fl f j x h1 Q) X
  | .mcl o c m f s as kas => fun ρ h Q X => wpE G o ρ h (fun x h1 => match insOf h1 x with
      | some (c', ns, _) => (c' = c ∧ posF m ns = none) ∧ wpA G as ρ h1 (fun ds h2 => wpA G kas ρ h2 (fun es h3 => callD G f s (x :: ds) es h3 Q X) X) X
      | none => False) X
  | .cmpO c C f s a b => fun ρ h Q X => wpE G a ρ h (fun x h1 => wpE G b ρ h1 (fun y h2 => cmpOR G c C f s x y h2 Q) X) X
  | .prm p as kas => fun ρ h Q X => wpA G as ρ h (fun ds h1 => wpA G kas ρ h1 (fun es h2 => prmR G p ds es h2 Q X) X) X
@[reducible] def wpT (G : Prg) : E → TDt
  | .cmp c a b => fun ρ h Q X => wpE G a ρ h (fun x h1 => wpE G b ρ h1 (fun y h2 => cmpR c x y h2 (blQ Q)) X) X
  | .chn c c' a b d => fun ρ h Q X => wpE G a ρ h (fun x h1 => wpE G b ρ h1 (fun y h2 => cmpR c x y h2 (blQ fun k h3 => if k = true then wpE G d ρ h3 (fun z h4 => cmpR c' y z h4 (blQ Q)) X else Q false h3)) X) X
  | .andE a b => fun ρ h Q X => wpT G a ρ h (fun k h1 => if k = true then wpT G b ρ h1 Q X else Q false h1) X
  | .orE a b => fun ρ h Q X => wpT G a ρ h (fun k h1 => if k = true then Q true h1 else wpT G b ρ h1 Q X) X
  | .notE a => fun ρ h Q X => wpT G a ρ h (fun k h1 => Q (!k) h1) X
  | .ife c a b => fun _ _ _ _ => False
  | .non => fun _ h Q _ => Q false h
  | .bl b => fun _ h Q _ => Q b h
  | .int i => fun _ h Q _ => truQ (.int i) h fun k => Q k h
  | .str x => fun _ h Q _ => truQ (.str x) h fun k => Q k h
  | .loc i => fun ρ h Q _ => match lk ρ i with
    | some d => truQ d h fun k => Q k h
    | _ => False
  | .glo k => fun _ h Q _ => truQ (G.Γ k) h fun k => Q k h
  | .op o a b => fun ρ h Q X => wpE G a ρ h (fun x h1 => wpE G b ρ h1 (fun y h2 => opR o x y h2 fun d h3 => truQ d h3 fun k => Q k h3) X) X
  | .neg a => fun _ _ _ _ => False
  | .tup es => fun _ _ _ _ => False
  | .lst m es => fun _ _ _ _ => False
  | .ix a i => fun ρ h Q X => wpE G a ρ h (fun x h1 => wpE G i ρ h1 (fun y h2 => ixR x y h2 fun d h3 => truQ d h3 fun k => Q k h3) X) X
  | .slc a l u => fun _ _ _ _ => False
  | .rev a => fun _ _ _ _ => False
  | .bif b as => fun ρ h Q X => wpA G as ρ h (fun ds h1 => bifR b ds h1 fun d h3 => truQ d h3 fun k => Q k h3) X
  | .isi a t => fun ρ h Q X => wpE G a ρ h (fun x h1 => isiR t x h1 (blQ Q)) X
  | .call f s as kas => fun ρ h Q X => wpA G as ρ h (fun ds h1 => wpA G kas ρ h1 (fun es h2 => callD G f s ds es h2 (fun d h3 => truQ d h3 fun k => Q k h3) X) X) X
  | .mth o m as => fun _ _ _ _ => False
  | .comp m own e t it cs => fun _ _ _ _ => False
  | .frz a => fun _ _ _ _ => False
  | .fld a j f => fun ρ h Q X => wpE G a ρ h (fun x h1 => fldR G.fl f j x h1 fun d h3 => truQ d h3 fun k => Q k h3) X
  | .mcl o c m f s as kas => fun ρ h Q X => wpE G o ρ h (fun x h1 => match insOf h1 x with
      | some (c', ns, _) => (c' = c ∧ posF m ns = none) ∧ wpA G as ρ h1 (fun ds h2 => wpA G kas ρ h2 (fun es h3 => callD G f s (x :: ds) es h3 (fun d h3 => truQ d h3 fun k => Q k h3) X) X) X
      | none => False) X
  | .cmpO c C f s a b => fun ρ h Q X => wpE G a ρ h (fun x h1 => wpE G b ρ h1 (fun y h2 => cmpOR G c C f s x y h2 (blQ Q)) X) X
  | .prm p as kas => fun ρ h Q X => wpA G as ρ h (fun ds h1 => wpA G kas ρ h1 (fun es h2 => prmR G p ds es h2 (fun d h3 => truQ d h3 fun k => Q k h3) X) X) X
@[reducible] def wpA (G : Prg) : Es → TDs
  | .nil => fun _ h Q _ => Q [] h
  | .cons e r => fun ρ h Q X => wpE G e ρ h (fun x h1 => wpA G r ρ h1 (fun xs h2 => Q (x :: xs) h2) X) X
/-- the tests of a comprehension: none or one -/
@[reducible] def wpC (G : Prg) : Es → TDt
  | .nil => fun _ h Q _ => Q true h
  | .cons e _ => fun ρ h Q X => wpT G e ρ h Q X
@[reducible] def wpG (G : Prg) : Tg → D → DEnv → Hd → (DEnv → Hd → Prop) → QX → Prop
  | .nm i => fun d ρ h Q _ => stK ρ i d fun ρ1 => Q ρ1 h
  | .tp ts => fun d ρ h Q X => match d with
    | .tup ds => ds.length = ts.len ∧ wpGs G ts ds ρ h Q X
    | _ => False
  | .sb a i => fun d ρ h Q _ => wpE G a ρ h (fun o h1 => wpE G i ρ h1 (fun k h2 => setR o k d h2 (fun h3 => Q ρ h3)) (fun _ _ => False)) (fun _ _ => False)
@[reducible] def wpGs (G : Prg) : Tgs → List D → DEnv → Hd → (DEnv → Hd → Prop) → QX → Prop
  | .nil => fun ds ρ h Q _ => match ds with
    | [] => Q ρ h
    | _ => False
  | .cons t r => fun ds ρ h Q X => match ds with
    | d :: ds => wpG G t d ρ h (fun ρ1 h1 => wpGs G r ds ρ1 h1 Q X) X
    | [] => False
@[reducible] def wpI (G : Prg) : It → TDs
  | .seq a => fun ρ h Q X => wpE G a ρ h (fun x h1 => match seqW x with
    | some ds => Q ds h1
    | none => False) X
  | .rg1 a => fun ρ h Q X => wpE G a ρ h (fun x h1 => asInt x fun j => inRange j ∧ Q (rangeD 0 j.toNat 1) h1) X
  | .rg2 a b => fun ρ h Q X => wpE G a ρ h (fun x h1 => wpE G b ρ h1 (fun y h2 => asInt x fun i => asInt y fun j => inRange i ∧ inRange j ∧ Q (rangeD i (j - i).toNat 1) h2) X) X
  | .rg3 a b c => fun ρ h Q X => wpE G a ρ h (fun x h1 => wpE G b ρ h1 (fun y h2 => wpE G c ρ h2 (fun z h3 => asInt x fun i => asInt y fun j => asInt z fun k => ∃ n, RgC i j k n ∧ Q (rangeD i n k) h3) X) X) X
  | .enm a => fun ρ h Q X => wpE G a ρ h (fun x h1 => match seqW x with
    | some ds => Q (enumD ds) h1
    | none => False) X
  | .zip a b => fun ρ h Q X => wpE G a ρ h (fun x h1 => wpE G b ρ h1 (fun y h2 => match seqF x, seqF y with
    | some ds, some es => Q (zipD ds es) h2
    | _, _ => False) X) X
end
/-- what is wanted behind a statement -/
structure EndsD where
  nx : DEnv → Hd → Prop
  rt : QD
  bk : DEnv → Hd → Prop := fun _ _ => False
  ct : DEnv → Hd → Prop := fun _ _ => False
/-- what is wanted of an exception, by the names as they stand -/
abbrev QXe := DEnv → QX
abbrev TDS := DEnv → Hd → EndsD → QXe → Prop
def loopF (t : D → DEnv → Hd → (DEnv → Hd → Prop) → QX → Prop) (b : TDS) (N : EndsD) (X : QXe) : List D → DEnv → Hd → Prop
  | [], ρ, h => N.nx ρ h
  | d :: ds, ρ, h => t d ρ h (fun ρ1 h1 => b ρ1 h1 { nx := loopF t b N X ds, rt := N.rt, bk := N.nx, ct := loopF t b N X ds } X) (fun _ _ => False)
def loopW (c : DEnv → Hd → (Bool → Hd → Prop) → QX → Prop) (b : TDS) (ρ : DEnv) (h : Hd) (N : EndsD) (X : QXe) : Prop :=
  ∃ W : Nat → DEnv → Hd → Prop, (∃ m, W m ρ h) ∧ ∀ m ρ h, W m ρ h → c ρ h (fun k h1 => if k = true then
    b ρ h1 { nx := fun ρ' h' => ∃ m', m' < m ∧ W m' ρ' h', rt := N.rt, bk := N.nx, ct := fun ρ' h' => ∃ m', m' < m ∧ W m' ρ' h' } X else N.nx ρ h1) (X ρ)
@[reducible] def setMK (ρ : DEnv) : List Nat → List D → (DEnv → Prop) → Prop
  | [], ds, k => match ds with
    | [] => k ρ
    | _ => False
  | i :: is, ds, k => match ds with
    | d :: ds => stK ρ i d fun ρ1 => setMK ρ1 is ds k
    | [] => False
/-- op= : a list that may be changed grows in its place; else as the operation -/
@[reducible] def lstV (h : Hd) : D → Option (List D)
  | .lst ds => some ds
  | .ref a => match h a with
    | some (.lst ds) => some ds
    | _ => none
  | _ => none
@[reducible] def iopR : Op2 → RD2
  | .add => fun x y h Q => match x, y with
    | .int i, .int j => Q (.int (i + j)) h
    | .str i, .str j => i.length + j.length ≤ sizeLine ∧ Q (.str (i ++ j)) h
    | .ref a, y => match h a with
      | some (.lst ds) => match lstV h y with
        | some es => ds.length + es.length ≤ sizeLine ∧ Q (.ref a) (hupd h a (.lst (ds ++ es)))
        | none => False
      | _ => False
    | _, _ => False
  | .sub => subR
  | .mul => fun x y h Q => match x, y with
    | .int i, .int j => CMul i j ∧ Q (.int (i * j)) h
    | _, _ => False
  | _ => fun _ _ _ _ => False
@[reducible] def rzR : Rk → List D → Hd → QX → Prop
  | .cls c => fun ds h X => match ds with
    | [_] => X ⟨c, [], []⟩ h
    | _ => False
  | .fld c f => fun ds h X => match ds with
    | [d] => X ⟨c, [f], [d]⟩ h
    | _ => False
/-- handlers of the same suite, one behind another -/
@[reducible] def hdR (G : Prg) (i j : Nat) (N : DEnv → Hd → Prop) (X : QXe) : List Str → QXe
  | [] => X
  | c :: l => fun ρ1 x h1 => match G.sub x.cls c with
    | some true => stK ρ1 j (.exc x.cls x.ns x.ds) fun ρ2 => N (noE ρ2 i) h1
    | some false => hdR G i j N X l ρ1 x h1
    | none => False
mutual
@[reducible] def wpS (G : Prg) : S → TDS
  | .asg t e => fun ρ h N X => wpE G e ρ h (fun d h1 => wpG G t d ρ h1 N.nx (fun _ _ => False)) (X ρ)
  | .par is es => fun ρ h N X => wpA G es ρ h (fun ds h1 => setMK ρ is ds fun ρ1 => N.nx ρ1 h1) (X ρ)
  | .aug i o e => fun ρ h N X => match lk ρ i with
    | some x => wpE G e ρ h (fun y h1 => iopR o x y h1 fun d h2 => stK ρ i d fun ρ1 => N.nx ρ1 h2) (X ρ)
    | _ => False
  | .augS a i o e => fun ρ h N X => wpE G a ρ h (fun x h1 => wpE G i ρ h1 (fun k h2 => getR x k h2 (fun y h3 => wpE G e ρ h3 (fun z h4 => iopR o y z h4 fun d h5 => setR x k d h5 fun h6 => N.nx ρ h6) (X ρ))) (X ρ)) (X ρ)
  | .ifS c a b => fun ρ h N X => wpT G c ρ h (fun k h1 => if k = true then wpSs G a ρ h1 N X else wpSs G b ρ h1 N X) (X ρ)
  | .whl c b => fun ρ h N X => loopW (wpT G c) (wpSs G b) ρ h N X
  | .forS t it b => fun ρ h N X => wpI G it ρ h (fun ds h1 => loopF (wpG G t) (wpSs G b) N X ds ρ h1) (X ρ)
  | .ret e => fun ρ h N X => wpE G e ρ h N.rt (X ρ)
  | .retN => fun _ h N _ => N.rt .non h
  | .expr e => fun ρ h N X => wpE G e ρ h (fun _ h1 => N.nx ρ h1) (X ρ)
  | .pass => fun ρ h N _ => N.nx ρ h
  | .brk => fun ρ h N _ => N.bk ρ h
  | .cnt => fun ρ h N _ => N.ct ρ h
  | .never => fun _ _ _ _ => False
  | .fldS a f e => fun ρ h N X => wpE G e ρ h (fun d h1 => wpE G a ρ h1 (fun o h2 => putR G.fl f o d h2 fun h3 => N.nx ρ h3) (X ρ)) (X ρ)
  | .fldA a j f o e => fun ρ h N X => wpE G a ρ h (fun x h1 => fldR G.fl f j x h1 (fun y h3 => wpE G e ρ h3 (fun z h4 => iopR o y z h4 fun d h5 => putR G.fl f x d h5 fun h6 => N.nx ρ h6) (X ρ))) (X ρ)
  | .raise r as => fun ρ h _ X => wpA G as ρ h (fun ds h1 => rzR r ds h1 (X ρ)) (X ρ)
  | .tryL b cs i j => fun ρ h N X => wpSs G b ρ h N (hdR G i j N.nx X cs)
  | .tryK b c i j => fun ρ h N X => wpSs G b ρ h N fun ρ1 x h1 => match G.sub x.cls c with
    | some true => stK ρ1 j (.exc x.cls x.ns x.ds) fun ρ2 => N.nx (noE ρ2 i) h1
    | some false => X ρ1 x h1
    | none => False
  | .frz i => fun ρ h N _ => match lk ρ i with
    | some d => frzR d h fun d h1 => stK ρ i d fun ρ1 => N.nx ρ1 h1
    | _ => False
@[reducible] def wpSs (G : Prg) : Ss → TDS
  | .nil => fun ρ h N _ => N.nx ρ h
  | .cons s r => fun ρ h N X => wpS G s ρ h { N with nx := fun ρ1 h1 => wpSs G r ρ1 h1 N X } X
end
end Y
namespace Y
open PySem PySem.Spec PyProof.Rows L2

/-! ### views of the text -/
def vBin : Expr → Option (Expr × Operator × Expr)
  | .BinOp a o b _ => some (a, o, b)
  | _ => none
theorem vBin_eq {e : Expr} {a : Expr} {o : Operator} {b : Expr} (h : vBin e = some (a, o, b)) : ∃ p, e = .BinOp a o b p := by
  cases e <;> first | (cases h; done) | (cases h; exact ⟨_, rfl⟩)
def vUn : Expr → Option (UnaryOp × Expr)
  | .UnaryOp o a _ => some (o, a)
  | _ => none
theorem vUn_eq {e : Expr} {a : Expr} {o : UnaryOp} (h : vUn e = some (o, a)) : ∃ p, e = .UnaryOp o a p := by
  cases e <;> first | (cases h; done) | (cases h; exact ⟨_, rfl⟩)
def vCmp : Expr → Option (Expr × CmpOp × Expr)
  | .Compare a [o] [b] _ => some (a, o, b)
  | _ => none
theorem vCmp_eq {e : Expr} {a : Expr} {o : CmpOp} {b : Expr} (h : vCmp e = some (a, o, b)) : ∃ p, e = .Compare a [o] [b] p := by
  unfold vCmp at h
  split at h <;> cases h
  exact ⟨_, rfl⟩
def vChn : Expr → Option (Expr × CmpOp × Expr × CmpOp × Expr)
  | .Compare a [o, o'] [b, c] _ => some (a, o, b, o', c)
  | _ => none
theorem vChn_eq {e : Expr} {a : Expr} {o : CmpOp} {b : Expr} {o' : CmpOp} {c : Expr} (h : vChn e = some (a, o, b, o', c)) : ∃ p, e = .Compare a [o, o'] [b, c] p := by
  unfold vChn at h
  split at h <;> cases h
  exact ⟨_, rfl⟩
def vIf : Expr → Option (Expr × Expr × Expr)
  | .IfExp c a b _ => some (c, a, b)
  | _ => none
theorem vIf_eq {e : Expr} {a : Expr} {b c : Expr} (h : vIf e = some (c, a, b)) : ∃ p, e = .IfExp c a b p := by
  cases e <;> first | (cases h; done) | (cases h; exact ⟨_, rfl⟩)
def vTup : Expr → Option (List Expr)
  | .Tuple es _ _ => some es
  | _ => none
theorem vTup_eq {e : Expr} {es : List Expr} (h : vTup e = some es) : ∃ k p, e = .Tuple es k p := by
  cases e <;> first | (cases h; done) | (cases h; exact ⟨_, _, rfl⟩)
def vLst : Expr → Option (List Expr)
  | .List es _ => some es
  | _ => none
theorem vLst_eq {e : Expr} {es : List Expr} (h : vLst e = some es) : ∃ p, e = .List es p := by
  cases e <;> first | (cases h; done) | (cases h; exact ⟨_, rfl⟩)
def vName : Expr → Option Str
  | .Name x _ => some x
  | _ => none
theorem vName_eq {e : Expr} {x : Str} (h : vName e = some x) : ∃ p, e = .Name x p := by
  cases e <;> first | (cases h; done) | (cases h; exact ⟨_, rfl⟩)
def vConst : Expr → Option Const
  | .Constant c _ _ => some c
  | _ => none
theorem vConst_eq {e : Expr} {x : Const} (h : vConst e = some x) : ∃ k p, e = .Constant x k p := by
  cases e <;> first | (cases h; done) | (cases h; exact ⟨_, _, rfl⟩)
def vBool : Expr → Option (BoolOp × Expr × Expr × List Expr × Pos)
  | .BoolOp o (a :: b :: r) p => some (o, a, b, r, p)
  | _ => none
theorem vBool_eq {e : Expr} {o : BoolOp} {a b : Expr} {r : List Expr} {p : Pos} (h : vBool e = some (o, a, b, r, p)) : e = .BoolOp o (a :: b :: r) p := by
  unfold vBool at h
  split at h <;> cases h
  rfl
/-- a plain subscript -/
def isSlice : Expr → Bool
  | .Slice _ _ _ _ => true
  | _ => false
def vSub : Expr → Option (Expr × Expr)
  | .Subscript a i _ => some (a, i)
  | _ => none
theorem vSub_eq {e : Expr} {a i : Expr} (h : vSub e = some (a, i)) : ∃ p, e = .Subscript a i p := by
  cases e <;> first | (cases h; done) | (cases h; exact ⟨_, rfl⟩)
def vSlice : Expr → Option (Expr × Option Expr × Option Expr)
  | .Subscript a (.Slice l u none _) _ => some (a, l, u)
  | _ => none
theorem vSlice_eq {e : Expr} {a : Expr} {l u : Option Expr} (h : vSlice e = some (a, l, u)) : ∃ p p2, e = .Subscript a (.Slice l u none p2) p := by
  unfold vSlice at h
  split at h <;> cases h
  exact ⟨_, _, rfl⟩
def vRev : Expr → Option Expr
  | .Subscript a (.Slice none none (some (.UnaryOp .USub (.Constant (.int 1) _ _) _)) _) _ => some a
  | _ => none
theorem vRev_eq {e : Expr} {a : Expr} (h : vRev e = some a) : ∃ p p1 p2 p3 k, e = .Subscript a (.Slice none none (some (.UnaryOp .USub (.Constant (.int 1) k p1) p2)) p3) p := by
  unfold vRev at h
  split at h <;> cases h
  exact ⟨_, _, _, _, _, rfl⟩
/-- a call of a name: name, arguments, keywords -/
def vCall : Expr → Option (Str × List Expr × List Keyword)
  | .Call (.Name x _) as ks _ => some (x, as, ks)
  | _ => none
theorem vCall_eq {e : Expr} {x : Str} {as : List Expr} {ks : List Keyword} (h : vCall e = some (x, as, ks)) : ∃ p q, e = .Call (.Name x p) as ks q := by
  unfold vCall at h
  split at h <;> cases h
  exact ⟨_, _, rfl⟩
def vMeth : Expr → Option (Expr × Str × List Expr × List Keyword)
  | .Call (.Attribute o m _) as ks _ => some (o, m, as, ks)
  | _ => none
theorem vMeth_eq {e : Expr} {o : Expr} {m : Str} {as : List Expr} {ks : List Keyword} (h : vMeth e = some (o, m, as, ks)) : ∃ p q, e = .Call (.Attribute o m p) as ks q := by
  unfold vMeth at h
  split at h <;> cases h
  exact ⟨_, _, rfl⟩
def vComp : Expr → Option (Expr × Expr × Expr × List Expr × Scope)
  | .ListComp e [⟨t, i, cs, 0⟩] sc _ => some (e, t, i, cs, sc)
  | _ => none
theorem vComp_eq {e : Expr} {x t i : Expr} {cs : List Expr} {sc : Scope} (h : vComp e = some (x, t, i, cs, sc)) : ∃ p, e = .ListComp x [⟨t, i, cs, 0⟩] sc p := by
  unfold vComp at h
  split at h <;> cases h
  exact ⟨_, rfl⟩
def vAtt : Expr → Option (Expr × Str)
  | .Attribute a f _ => some (a, f)
  | _ => none
theorem vAtt_eq {e a : Expr} {f : Str} (h : vAtt e = some (a, f)) : ∃ p, e = .Attribute a f p := by
  cases e <;> first | (cases h; done) | (cases h; exact ⟨_, rfl⟩)
/-- no star among the arguments -/
def noStar : List Expr → Bool
  | [] => true
  | .Starred _ _ :: _ => false
  | _ :: r => noStar r
theorem noStar_cons {e : Expr} {r : List Expr} (h : noStar (e :: r) = true) : noStar r = true ∧ ∀ env, starEach (e :: r) env = (false, eval e env) :: starEach r env := by
  cases e <;> first | exact ⟨h, fun _ => rfl⟩ | cases h
theorem noStar_any {env : PySem.Env} {pos : Pos} : ∀ {es : List Expr}, noStar es = true → (backTo pos (starEach es env)).any (·.1) = false
  | [], _ => rfl
  | e :: r, h => by
    obtain ⟨h1, h2⟩ := noStar_cons h
    rw [h2]
    show (false || (backTo pos (starEach r env)).any (·.1)) = false
    rw [noStar_any h1]; rfl
/-- the kinds of expression whose test is their value's truth -/
def plainT : Expr → Bool
  | .UnaryOp .Not _ _ => false
  | .BoolOp _ _ _ => false
  | .IfExp _ _ _ _ => false
  | .Compare _ _ _ _ => false
  | _ => true
theorem plainT_eq {e : Expr} {env : PySem.Env} (h : plainT e = true) : ∀ whole, PySem.isTrue e env whole = (do let v ← whole; standAt e.pos; holding [v] (truthy v)) := by
  intro whole
  cases e with
  | UnaryOp o a p => cases o <;> first | rfl | (cases h; done)
  | BoolOp => cases h
  | IfExp => cases h
  | Compare => cases h
  | _ => rfl
/-- what stands as a plain index -/
theorem plainIx_of {b : Expr} (h : isSlice b = false) : PlainIx b := by
  intro o i
  cases b <;> first | rfl | (cases h; done)
/-- the store of two or three plain names side by side: which names, if so; none: the model has no word -/
def swpC (sc : Scope) (ts vs : List Expr) : Option (Option (List Str)) :=
    if (!(ts.length == 2 || ts.length == 3) || vs.length != ts.length) = true then some none
    else if (vs.any fun | .Starred .. => true | _ => false) = true then some none
    else if ((ts.filterMap fun
        | .Name id pos => if (sc.names.lookup id == some .local && pos.line == (ts.head?.map (·.pos.line)).getD 0) = true then some id else none
        | _ => none).length != ts.length || (ts.filterMap fun
        | .Name id pos => if (sc.names.lookup id == some .local && pos.line == (ts.head?.map (·.pos.line)).getD 0) = true then some id else none
        | _ => none).eraseDups.length != (ts.filterMap fun
        | .Name id pos => if (sc.names.lookup id == some .local && pos.line == (ts.head?.map (·.pos.line)).getD 0) = true then some id else none
        | _ => none).length) = true then some none
      else if vs.all (foldedForSure 8) = true then some none
      else if vs.all (constantsAlone 8) = true then none
      else some (some (ts.filterMap fun
        | .Name id pos => if (sc.names.lookup id == some .local && pos.line == (ts.head?.map (·.pos.line)).getD 0) = true then some id else none
        | _ => none))
def isTupE : Expr → Bool
  | .Tuple _ _ _ => true
  | .List _ _ => true
  | _ => false
def swp (sc : Scope) (t : Expr) (value : Expr) : Option (Option (List Str)) :=
  match isTupE t with
  | false => some none
  | true => match t with
    | .Tuple ts _ _ => (match value with
      | .Tuple vs _ _ => swpC sc ts vs
      | _ => some none)
    | _ => none
theorem swpC_ok {sc : Scope} {ts vs : List Expr} {k k2 : Nat} {p p2 : Pos} {r : Option (List Str)} {env : PySem.Env} (hs : env.scope = sc) (hk : sc.kind = .function) (h : swpC sc ts vs = some r) : swappedStores [.Tuple ts k p] (.Tuple vs k2 p2) env = pure r := by
  have hb : env.blockKind = .function := by unfold PySem.Env.blockKind; rw [hs, hk]; rfl
  subst hs
  unfold swpC at h
  unfold swappedStores
  dsimp only
  rw [hb]
  split at h
  · rename_i c1
    cases h
    rw [if_pos (by rw [c1]; rfl)]
  · rename_i c1
    rw [if_neg (by simpa using c1)]
    split at h
    · rename_i c2
      cases h
      refine Eq.trans (if_pos c2) rfl
    · rename_i c2
      refine Eq.trans (if_neg c2) ?_
      split at h
      · rename_i c3
        cases h
        refine Eq.trans (if_pos c3) rfl
      · rename_i c3
        refine Eq.trans (if_neg c3) ?_
        split at h
        · rename_i c4
          cases h
          exact Eq.trans (if_pos c4) rfl
        · rename_i c4
          refine Eq.trans (if_neg c4) ?_
          split at h
          · cases h
          · rename_i c5
            cases h
            exact Eq.trans (if_neg c5) rfl
theorem swp_ok {sc : Scope} {t : Expr} {v : Expr} {r : Option (List Str)} {env : PySem.Env} (hs : env.scope = sc) (hk : sc.kind = .function) (h : swp sc t v = some r) : swappedStores [t] v env = pure r := by
  cases t with
  | Tuple ts k p =>
    cases v with
    | Tuple vs k2 p2 => exact swpC_ok hs hk h
    | _ => cases h; rfl
  | List => cases h
  | _ => cases h; rfl
/-- whether the value's list is stored ahead of the block's end -/
def swc (sc : Scope) (value : Expr) (target : Expr) : Bool :=
  match value with
  | .ListComp _ _ s p => (match target with
    | .Name t pos => sc.names.lookup t == some .local && pos.line == p.line && !(s.names.any fun (n, k) => n == t && (k == .local || k == .cell))
    | _ => false)
  | _ => false
def okVal : Expr → Bool
  | .SetComp _ _ _ _ => false
  | .DictComp _ _ _ _ _ => false
  | _ => true
theorem swc_ok {sc : Scope} {v t : Expr} {l : Nat} {env : PySem.Env} (hs : env.scope = sc) (hk : sc.kind = .function) (hv : okVal v = true) : swapsWith v (some t) l env = pure (swc sc v t) := by
  have hb : env.blockKind = .function := by unfold PySem.Env.blockKind; rw [hs, hk]; rfl
  cases v <;> first | rfl | (cases hv; done) | skip
  cases t <;> first | rfl | skip
  unfold swapsWith swc
  dsimp only
  rw [hb]
  unfold PySem.Env.kindOf
  rw [hs]
  rfl
end Y
/-! Exceptions of the text's own classes over ValueError, LookupError, ArithmeticError, whose __init__ calls the family's and keeps one field. -/
namespace Y
open PySem PySem.Spec PyProof.Rows L2
/-- the built-in class at the root -/
inductive Bs where
  | v | l | a
  deriving DecidableEq
def Bs.nm : Bs → String
  | .v => "ValueError" | .l => "LookupError" | .a => "ArithmeticError"
def Bs.newId : Bs → String
  | .v => "ValueError.__new__" | .l => "LookupError.__new__" | .a => "ArithmeticError.__new__"
def Bs.initId : Bs → String
  | .v => "ValueError.__init__" | .l => "LookupError.__init__" | .a => "ArithmeticError.__init__"
def Bs.bm (b : Bs) : List Value := [.type b.nm, .type "Exception", .type "BaseException", .type "object"]
theorem Bs.FB : ∀ b : Bs, ExcBaseFacts b.nm b.newId b.initId b.bm
  | .v => F.excBase_ValueError
  | .l => F.excBase_LookupError
  | .a => F.excBase_ArithmeticError
theorem Bs.SF : ∀ b : Bs, StoreFacts b.nm b.bm "object.__setattr__" "object"
  | .v => F.store_ValueError
  | .l => F.store_LookupError
  | .a => F.store_ArithmeticError
section
open Builtin Builtin.ObjectAttr
variable {prog : Program} {w : World} {A : Around} {R : Result → Shared → Prop} {hp : Heap} {g : Array GenState} {d : Drawn} {t : Nat} {os : OsState}
/-- the first field of an exception that has no dict yet: any root -/
theorem osaB (b : Bs) {K : PySem.W.Frag} {name : Str} {tk : Tok} {v : Value} {x C : Addr} {fv : Array Value} {cd : ClassData}
    (X : K.In hp) (hx : hp.get? x = some { cls := .ref C, data := .fields fv }) (hcd : PySem.W.clsIn K C = some cd) (hm : PySem.W.excTail b.bm cd.mro = true) (hne : cd.mro.isEmpty = false) (hh : cd.hasDict = true) (ha : PySem.W.findIn K (.ref C) name = some none)
    (hq : ∀ h' tk' dx, (∀ b o, b ≠ x → hp.get? b = some o → h'.get? b = some o) → hp.objs.size ≤ dx → dx ≠ x → h'.get? x = some { cls := .ref C, dict := some dx, data := .fields fv } →
      h'.Ns1 dx (fun y => if y = name then some v else none) → R (.ok (.ret .none)) ⟨h', g, d, tk', os⟩) :
    codeAny (model prog w) A (.call (.builtin "object.__setattr__") ⟨[.ref x, .str name tk, v], []⟩) R ⟨hp, g, d, t, os⟩ := by
  have inst : PySem.W.InstAt hp x { cls := .ref C, data := .fields fv } C none := ⟨hx, rfl, rfl, trivial⟩
  have st := b.SF
  have isObj : cd.mro.contains (.type "object") = true := (PySem.W.excTail_contains "object" _ hm).trans st.hasOwner
  have apart : x ≠ hp.objs.size := Nat.ne_of_lt (Heap.lt_size hx)
  have below : PySem.W.Looks (model prog w) hp (isInstance (.ref x) (.type "object")) true := inst.type.andThen (PySem.W.looks_mroIn X (by unfold PySem.W.mroIn; rw [hcd, Option.bind_some, if_neg (by rw [hne]; decide), isObj]))
  refine codeAny_call_builtin st.slot.plain st.entry (@PySem.W.check_slot (model prog w) _ _ ⟨hp, g, d, t, os⟩ "object.__setattr__" "object" "__setattr__" (.ref x) [.str name tk, v] [] _ st.kind st.split below (st.args (.ref x) (.str name tk) v) ?_)
  have m1 : PySem.W.Looks (model prog w) hp (mroOf (.ref C)) cd.mro := (PySem.W.looks_clsIn X hcd).andThen .now
  have m2 : PySem.W.Looks (model prog w) hp (storeTaker? none) none := .now
  have m3 : PySem.W.Looks (model prog w) hp (classData C) cd := PySem.W.looks_clsIn X hcd
  rw [PySem.W.osa_eq, refuse_eq]
  refine wpAny_bind (wpAny_bind (inst.type.at (wpAny_bind (m1.at ?_))))
  rw [PySem.W.excTail_pass _ (st.passes _) _ hm]
  refine wpAny_pure (wpAny_bind (inst.type.at (wpAny_bind ((PySem.W.looks_findIn X ha).at (wpAny_bind (m2.at ?_))))))
  show wpAny _ _ (storeInOwnDict (.ref x) (.ref C) (.str name tk) name v false) _ _ _
  obtain ⟨c1, c2, c3, c4, c5, c6, c7, c8, c9, c10, c11⟩ := cd
  dsimp only at hh
  subst hh
  unfold storeInOwnDict ownDictForStores
  repeat (first | with_reducible refine HandSPX.store_in_new ?_ ?_ | with_reducible refine wpAny_loadPart_at hx ?_ | with_reducible refine m3.at ?_ | wp_step)
  · exact ⟨_, #[], _, (Heap.get?_update_ne _ _ _ _ apart.symm).trans (Heap.get?_push_at rfl rfl), rfl, fun e he => absurd he (by simp), fun _ => rfl⟩
  · intro h' tk' hn' hs
    have at1 : (hp.push { cls := .type "dict", data := .dict #[] }).get? x = some { cls := .ref C, data := .fields fv } := Heap.get?_push_of_some _ hx
    refine hq h' tk' hp.objs.size (fun b o hb ho => ?_) (Nat.le_refl _) apart.symm ?_ hn'
    · exact (hs.2 b (Nat.ne_of_lt (Heap.lt_size ho))).trans ((Heap.get?_update_ne _ _ _ _ hb).trans (Heap.get?_push_of_some _ ho))
    · exact (hs.2 x apart).trans (Heap.get?_update_self _ at1 rfl)
end
/-- what the written part says of such a class -/
structure ExB (b : Bs) (K : PySem.W.Frag) (C : Addr) : Prop where
  cls : ∃ nm q N bs bm sn sub ab col dd k0 k1 k2 k3 k5, K.lookup C = some (excClassObj nm q C N bs bm true sn sub ab col dd k0 k1 k2 k3 k5 b.newId) ∧ PySem.W.excTail b.bm bm = true
  sa : PySem.W.findIn K (.ref C) "__setattr__" = some (some (.builtin "object.__setattr__"))
  exC : PySem.W.subIn K (.ref C) (.type "BaseException") = some true
  tyC : PySem.W.typeIn K (.ref C) = some (.type "type")
  kC : PySem.W.keepIn K (.ref C) = true
def exbB (b : Bs) (K : PySem.W.Frag) (C : Addr) : Bool := (match K.lookup C with
  | some ⟨.type "type", _, .cls cd, sl⟩ => (match cd.mro, sl.toList with
    | .ref C' :: bm, [_, _, _, _, some (.builtin n), _] => C' == C && (n == b.newId && (!cd.hasDel && (cd.hasDict && PySem.W.excTail b.bm bm)))
    | _, _ => false)
  | _ => false) && (decide (PySem.W.findIn K (.ref C) "__setattr__" = some (some (.builtin "object.__setattr__"))) && (decide (PySem.W.subIn K (.ref C) (.type "BaseException") = some true) && (decide (PySem.W.typeIn K (.ref C) = some (.type "type")) && PySem.W.keepIn K (.ref C))))
theorem exbB_ok {b : Bs} {K : PySem.W.Frag} {C : Addr} (h : exbB b K C = true) : ExB b K C := by
  unfold exbB at h
  simp only [Bool.and_eq_true, decide_eq_true_eq] at h
  obtain ⟨h1, h2, h3, h4, h5⟩ := h
  refine ⟨?_, h2, h3, h4, h5⟩
  split at h1
  · rename_i dd cd sl ho
    split at h1
    · rename_i C' bm k0 k1 k2 k3 n k5 hm hs
      simp only [Bool.and_eq_true, beq_iff_eq, Bool.not_eq_true'] at h1
      obtain ⟨rfl, rfl, hdel, hd, ht⟩ := h1
      obtain ⟨nm, bs, mro, ns, qn, hd', sn, sub, ab, col, del⟩ := cd
      dsimp only at hm hdel hd
      subst hm hdel hd
      have hsl : sl = #[k0, k1, k2, k3, some (.builtin b.newId), k5] := by
        obtain ⟨l⟩ := sl
        simp only at hs
        rw [hs]
      subst hsl
      exact ⟨nm, qn, ns, bs, bm, sn, sub, ab, col, dd, k0, k1, k2, k3, k5, ho, ht⟩
    · cases h1
  · cases h1
theorem tail_ref {b : Bs} {C : Addr} {bm : List Value} (h : PySem.W.excTail b.bm bm = true) : PySem.W.excTail b.bm (.ref C :: bm) = true := h
section
variable {X : Cx} {pins : List (Addr × Obj)} {σ : L2.St} {H : Hp} {s : Shared} {a C dx : Addr} {f : Str} {y : V} {u : Value} {Q : Unit → Shared → Prop} {E : Value → Shared → Prop} {A : Around} {b : Bs}
/-- self.f = y, the first one -/
theorem ostB (T : ExB b X.K C) (I : Inv X pins σ H s) (e : H a = some (exo a C none)) (hno : PySem.W.findIn X.K (.ref C) f = some none) (ry : RelV y u)
    (h : ∀ dx s', H dx = none → dx ≠ a → Inv X pins σ (upd (upd H dx (exd dx [(f, y)])) a (exo a C (some dx))) s' → Q () s') : wpAny (model X.prog X.w) A (setAttr (.ref a) f u) Q E s := by
  obtain ⟨nm, q, N, bs, bm, sn, sub, ab, col, dd, k0, k1, k2, k3, k5, hC, hbm⟩ := T.cls
  have hcl : PySem.W.clsIn X.K C = some { name := nm, bases := bs, mro := .ref C :: bm, ns := N, qualname := q, hasDict := true, slotNames := sn, subclasses := sub, abstract := ab, collection := col, hasDel := false } := by unfold PySem.W.clsIn; rw [hC] <;> rfl
  obtain ⟨t1, ho⟩ := exo_at I.hok e
  obtain ⟨hp, g, d, t, os⟩ := s
  refine PySem.W.set_plain I.kIn (ox := { cls := .ref C, dict := none, data := .fields #[.ref t1, .none, .none, .none, .bool false, .none] }) (od := none) ⟨ho, rfl, rfl, trivial⟩ T.sa ?_
  refine osaB b I.kIn ho hcl (tail_ref hbm) rfl rfl hno (fun h' tk' dx k dn dne hx hn => ?_)
  have hnd : H dx = none := I.hok.fresh dn
  have nd : ∀ {b : Addr} {o : Obj}, hp.get? b = some o → b ≠ dx := fun {b o} q => Nat.ne_of_lt (Nat.lt_of_lt_of_le (Heap.lt_size q) dn)
  have na : ∀ {b : Addr}, H b = none → b ≠ a := fun {b} n z => by rw [z, e] at n; cases n
  have U : Un X.fs [] H (upd (upd H dx (exd dx [(f, y)])) a (exo a C (some dx))) hp h' := {
    keep := fun b o q n _ _ => k b o (na n) q
    slot := fun b o q n _ _ => ⟨o.slots, k b o (na n) q⟩
    free := fun b o q n _ => by rw [upd_ne (na n), upd_ne (nd q)]; exact n
    there := fun b o q _ => by
      by_cases hb : b = a
      · exact ⟨_, by rw [hb]; exact hx⟩
      · exact ⟨o, k b o hb q⟩
    tups := fun b xs q => by rw [upd_ne (at_ne e q exo_tup), upd_ne (ne_of_none q hnd)]; exact q
    frzs := fun b o v q => by rw [upd_ne (at_ne e q exo_frz), upd_ne (ne_of_none q hnd)]; exact q
    tbls := fun b ps q => ⟨#[], by rw [upd_ne (at_ne e q exo_tbl), upd_ne (ne_of_none q hnd), q]; simp⟩ }
  refine h dx _ hnd dne (I.un (t' := tk') U fun b o q => ?_)
  by_cases hb : b = a
  · subst hb
    rw [upd_same] at q; cases q
    exact exo_ok hx
  · rw [upd_ne hb] at q
    by_cases hd : b = dx
    · subst hd
      rw [upd_same] at q; cases q
      exact exd_ok hn (relO_put (fs := []) ry fun g => True.intro)
    · rw [upd_ne hd] at q
      refine (I.hok b o q).stay (fun c v hc z => k c v ?_ z) (fun c hc => ?_) (fun c xs hc => ?_)
      · rcases hc with hc | hc
        · rw [hc]; exact hb
        · exact at_ne e hc exo_own
      · rw [upd_ne (at_ne e hc exo_own), upd_ne (ne_of_none hc hnd)]; exact hc
      · rw [upd_ne (at_ne e hc exo_tup), upd_ne (ne_of_none hc hnd)]; exact hc
/-- the root's __init__: nothing of it is told -/
theorem oinitB {us : List Value} {Q : Value → Shared → Prop} (T : ExB b X.K C) (I : Inv X pins σ H s) (e : H a = some (exo a C none)) (hl : us.length ≤ sizeLine) (h : ∀ s', Inv X pins σ H s' → Q .none s') :
    wpAny (model X.prog X.w) A (call (.builtin b.initId) (.ref a :: us)) Q E s := by
  obtain ⟨nm, q, N, bs, bm, sn, sub, ab, col, dd, k0, k1, k2, k3, k5, hC, hbm⟩ := T.cls
  obtain ⟨t1, ho⟩ := exo_at I.hok e
  obtain ⟨hp, g, d, t, os⟩ := s
  refine wpAny_call (PySem.HandSPX.init_base b.FB (fun Y => PySem.W.excTail_contains Y bm hbm) (I.kIn _ _ hC) ho hl fun h' t2 k hx => ?_)
  have J := I.write (t' := t) (x := a) (e := a) (o := exo a C none) (by rw [e]; exact True.intro) (.inl rfl) k ⟨_, hx⟩ (exo_ok hx)
  have eu : upd H a (exo a C none) = H := by
    funext c
    by_cases hc : c = a
    · rw [hc, upd_same, e]
    · rw [upd_ne hc]
  rw [eu] at J
  exact h _ J
end
/-- how the family's class is read for its __init__ -/
structure IniB (b : Bs) (K : PySem.W.Frag) (W : Addr) : Prop where
  rd : PySem.W.readsIn K W (.type "type") = true
  ga : PySem.W.specialIn K (.ref W) "__getattribute__" = some (some (.builtin "type.__getattribute__"))
  at_ : PySem.W.findCls K (.ref W) (.type "type") "__init__" = some (.val (.builtin b.initId))
def iniBB (b : Bs) (K : PySem.W.Frag) (W : Addr) : Bool := PySem.W.readsIn K W (.type "type") && (decide (PySem.W.specialIn K (.ref W) "__getattribute__" = some (some (.builtin "type.__getattribute__"))) && (match PySem.W.findCls K (.ref W) (.type "type") "__init__" with
  | some (.val (.builtin n)) => n == b.initId
  | _ => false))
theorem iniBB_ok {b : Bs} {K : PySem.W.Frag} {W : Addr} (h : iniBB b K W = true) : IniB b K W := by
  unfold iniBB at h
  simp only [Bool.and_eq_true, decide_eq_true_eq] at h
  obtain ⟨h1, h2, h3⟩ := h
  refine ⟨h1, h2, ?_⟩
  split at h3
  · rename_i n e
    rw [e, beq_iff_eq.mp h3]
  · cases h3
/-- Family.__init__(self, ..) -/
def tIniB (b : Bs) (K : PySem.W.Frag) (ta : TA) : TE := fun σ H Q => ta σ H fun vs H1 => ∃ (a C : Addr) (ws : List V), vs = .ref a :: ws ∧ ws.length ≤ 1000 ∧ ExB b K C ∧ H1 a = some (exo a C none) ∧ Q .non H1
def tOstB (b : Bs) (K : PySem.W.Frag) (f : Str) (to te : TE) : TS := fun D σ H => te σ H fun y H1 => to σ H1 fun x H2 => ∃ a C : Addr, x = .ref a ∧ ExB b K C ∧ PySem.W.findIn K (.ref C) f = some none ∧
  H2 a = some (exo a C none) ∧ ∀ dx, H2 dx = none → dx ≠ a → D.nx σ (upd (upd H2 dx (exd dx [(f, y)])) a (exo a C (some dx)))
section
variable {X : Cx} {o e : Expr} {es : List Expr} {to te : TE} {ta : TA} {f : Str} {p p' p1 p2 pos : Pos} {b : Bs}
theorem pe_iniB {pl : Sem Bool} {x : Str} {W : Addr} (hg : Gl X x) (hm : X.mg x = some (.ref W)) (T : IniB b X.K W) (ha : PA X (e :: es) ta)
    (hc : eval (.Call (.Attribute (.Name x p1) "__init__" p2) (e :: es) [] pos) X.env = (do
      let ov ← eval (.Name x p1) X.env
      standAt p2.atName
      let (f, first) ← holding [ov] (getMethod ov "__init__" pl)
      callWith pos f first (backTo pos (starEach (e :: es) X.env)) (backToKw pos (keywordEach [] X.env))))
    (he : starEach (e :: es) X.env = (false, eval e X.env) :: starEach es X.env) (hpl : (backTo pos (starEach es X.env)).any (·.1) = false) (hdb : (x == ("__debug__" : Str)) = false) :
    PE X (.Call (.Attribute (.Name x p1) "__init__" p2) (e :: es) [] pos) (tIniB b X.K ta) := by
  refine ⟨fun pins s σ H Q I h => ?_⟩
  refine PySem.W.methodCall_KW (ld_glob I hg hm ?_ hdb) hc
  refine PySem.W.method_cls I.kIn T.ga (PySem.W.cls_value I.kIn T.rd T.at_ (by cases b <;> rfl) ?_)
  show wpAny _ _ (callWith pos (Value.builtin b.initId) [] (backTo pos (starEach (e :: es) X.env)) []) _ _ _
  refine PyProof.Rows.callWith_method1 (thn (ha.run pos pins _ σ H _ (I.tok _) h) fun us s1 ⟨vs, H1, I1, r1, a, C, ws, ev, hl, T, ea, q⟩ => ?_) he hpl
  subst ev
  cases r1 with
  | @cons _ u0 _ ur ra rw' =>
    obtain rfl : u0 = Value.ref a := ra
    have hlen : ur.length ≤ sizeLine := by
      rw [← Paired.length rw', sizeLine_eq]
      omega
    exact oinitB T I1 ea hlen fun s' J => ⟨.non, H1, J, rfl, q⟩
theorem ps_ostB (ho : PE X o to) (he : PE X e te) (hs : swapsWith e (some (.Attribute o f p')) pos.line X.env = pure false) : PS X (.Assign [.Attribute o f p'] e pos) (tOstB b X.K f to te) := by
  refine ⟨fun pins s σ H D I h => ?_⟩
  refine plainObj_wpAny_Assign_Attribute (thn (he.run pins s σ H _ I h) fun v s1 ⟨y, H1, I1, r1, q1⟩ => thn (ho.run pins s1 σ H1 _ I1 q1) fun u s2 ⟨x, H2, I2, r2, a, C, ex, T, hno, ea, q⟩ => ?_) hs
  subst ex
  obtain rfl : u = Value.ref a := r2
  exact ostB T I2 ea hno r1 fun dx s' n ne J => ⟨σ, _, J, q dx n ne⟩
/-- C(e), C's own __init__ keeping sp -/
theorem pmk_B {CX : CXT} {x : Str} {C fI : Addr} {k : Nat} {fd : FuncData} {ps : List Str} {sp : Sp} (T : ExB b X.K C) (iC : PySem.W.findIn X.K (.ref C) "__init__" = some (some (.ref fI))) (tI : PySem.W.typeIn X.K (.ref fI) = some (.type "function"))
    (F1 : FnOk X.prog X.w X.K X.mg X.base CX k fI fd ps sp) (hr : Room (k + 1) X.A) (hb : Binds X.K fd ps []) (hx : Passes CX X (fun _ _ _ => False)) (hg : Gl X x) (hm : X.mg x = some (.ref C)) (ha : PA X (e :: es) ta)
    (hdb : (x == ("__debug__" : Str)) = false) (he : starEach (e :: es) X.env = (false, eval e X.env) :: starEach es X.env) (hpl : (backTo pos (starEach es X.env)).any (·.1) = false) :
    PMk X (.Call (.Name x p) (e :: es) [] pos) (tMkO C sp [] ta) := by
  intro pins s σ H Q I h
  obtain ⟨nm, q, N, bs, bm, sn, sub, ab, col, dd, k0, k1, k2, k3, k5, hC, hbm⟩ := T.cls
  refine wpAny_Call_Name_kw (ld_glob I hg hm ?_ hdb)
  refine PySem.W.callWith_K (h₀ := X.base) I.ok.mod.kin T.kC (thn (ha.run pos pins s σ H _ I h) fun us s1 ⟨vs, H1, I1, r1, hz, q1⟩ => ⟨I1.kIn, ?_⟩) he hpl
  show wpAny _ _ (call (.ref C) us) _ _ _
  obtain ⟨hp, g, dr, tk, os⟩ := s1
  have hsz : hp.objs.size ≤ hp.objs.size + 1 := Nat.le_succ _
  have hn : H1 (hp.objs.size + 1) = none := I1.hok.fresh hsz
  have hq := q1 (hp.objs.size + 1) hn
  have kk : ∀ b o, hp.get? b = some o → ((hp.push (PySem.W.kdv_tup us)).push (PySem.HandSPX.excO C hp.objs.size)).get? b = some o := fun b o e => Heap.get?_push_of_some _ (Heap.get?_push_of_some _ e)
  have hget : ((hp.push (PySem.W.kdv_tup us)).push (PySem.HandSPX.excO C hp.objs.size)).get? (hp.objs.size + 1) = some (PySem.HandSPX.excO C hp.objs.size) := by heap_get
  have I2 : Inv X pins σ (upd H1 (hp.objs.size + 1) (exo (hp.objs.size + 1) C none)) ⟨(hp.push (PySem.W.kdv_tup us)).push (PySem.HandSPX.excO C hp.objs.size), g, dr, tk, os⟩ :=
    I1.laid (t' := tk) (a := hp.objs.size + 1) (o := exo (hp.objs.size + 1) C none) (h' := (hp.push (PySem.W.kdv_tup us)).push (PySem.HandSPX.excO C hp.objs.size)) kk hsz (exo_ok hget)
  have r2 : Vals (V.ref (hp.objs.size + 1) :: (vs ++ [])) (Value.ref (hp.objs.size + 1) :: (us ++ [])) := .cons rfl (r1.append .nil)
  have hl : (Value.ref (hp.objs.size + 1) :: us ++ []).length = ps.length := by
    have e := r2.length
    rw [F1.len _ _ _ _ hq] at e
    exact e.symm
  have hus : us.length ≤ sizeLine := by
    rw [← Paired.length r1, sizeLine_eq]
    omega
  have hB := hb _ (Value.ref (hp.objs.size + 1) :: us) I2.kIn hl
  rw [List.cons_append] at hB
  refine wpAny_call (PySem.HandSPX.call_own b.FB (fun Y => PySem.W.excTail_contains Y bm hbm) (I1.kIn _ _ hC) (PySem.W.looks_findIn I1.kIn iC) (fun self => PySem.W.bind_fn I1.kIn self tI) hus
    (codeAny_mono (F1.run _ X.stack _ _ ⟨Value.ref (hp.objs.size + 1) :: us, []⟩ (Value.ref (hp.objs.size + 1) :: (us ++ [])) _ _ (fun _ _ _ => False) (hr.make C us []) (I2.env0.make C us []) hB r2 hq) fun r s' hq' => ?_))
  cases r with
  | error er => exact hx pins σ _ _ er s' I2 hq'
  | ok fl =>
    cases fl with
    | ret u =>
      obtain ⟨v, H2, os2, bare2, un2, hok2, rv, ev, d, fs, ea, ed, hd1, q2⟩ := hq'
      subst ev
      obtain ⟨h2, g2, d2, t2, os'⟩ := s'
      exact ⟨rv, mk_end (raises_own T.exC T.tyC) I1 hsz kk un2 hok2 os2 bare2 ea ed hd1 q2⟩
    | next => exact False.elim hq'
    | brk => exact False.elim hq'
    | cont => exact False.elim hq'
end
end Y
namespace Y
open PySem PySem.Spec PyProof.Rows L2

/-! ### the promise as a hand-layer promise -/
def toSp (K : PySem.W.Frag) (n : Nat) (S : Spec) : Sp := fun vs H Q E => ∃ ds h Qd Ed, vs.length = n ∧ Reps K H h ds vs ∧ HRel K H h ∧ S ds h Qd Ed ∧ Cl K h H Qd Q ∧ ClX K h H Ed E
/-- how a call of this shape binds -/
def KSh (K : PySem.W.Frag) (fd : FuncData) (ps : List Str) (sh : Shape) : Prop := ∀ (s : Shared) (us ws : List Value) (vs es : List V), K.In s.heap → us.length = sh.n → ws.length = sh.ks.length → Vals vs us → Vals es ws →
  ∃ zv zs, pickV sh.pl vs es = some zv ∧ Vals zv zs ∧ zs.length = ps.length ∧ BindsTo s fd ⟨us, sh.ks.zip ws⟩ (ps.zip zs)
theorem Src.rep {K : PySem.W.Frag} {H : Hp} {h : Hd} {ds es : List D} {vs ws : List V} (r : Reps K H h ds vs) (q : Reps K H h es ws) : ∀ {c : Src} {d : D}, c.d ds es = some d → ∃ v, c.v vs ws = some v ∧ Rep K H h d v
  | .p i, d, e => r.get e
  | .k i, d, e => q.get e
  | .cn, _, e => by cases e; exact ⟨_, rfl, .non⟩
  | .cb b, _, e => by cases e; exact ⟨_, rfl, .bl b⟩
  | .ci i, _, e => by cases e; exact ⟨_, rfl, .int i⟩
  | .cs x, _, e => by cases e; exact ⟨_, rfl, .str x⟩
theorem pick_rep {K : PySem.W.Frag} {H : Hp} {h : Hd} {ds es : List D} {vs ws : List V} (r : Reps K H h ds vs) (q : Reps K H h es ws) : ∀ {pl : List Src} {xs : List D}, pickD pl ds es = some xs → ∃ zv, pickV pl vs ws = some zv ∧ Reps K H h xs zv
  | [], xs, e => by
    cases e
    exact ⟨[], rfl, .nil⟩
  | c :: pl, xs, e => by
    unfold pickD at e
    rw [List.mapM_cons] at e
    cases e1 : c.d ds es with
    | none => rw [e1] at e; cases e
    | some d =>
      rw [e1] at e
      cases e2 : pl.mapM (Src.d ds es) with
      | none => rw [e2] at e; cases e
      | some ys =>
        rw [e2] at e
        cases e
        obtain ⟨v, q1, q2⟩ := Src.rep r q e1
        obtain ⟨zv, q3, q4⟩ := pick_rep r q (pl := pl) e2
        refine ⟨v :: zv, ?_, .cons q2 q4⟩
        unfold pickV
        rw [List.mapM_cons, q1]
        have q3 : pl.mapM (Src.v vs ws) = some zv := q3
        rw [q3]; rfl

/-! ### the context of a block of the text -/
structure Ctx where
  N : List Str
  sc : Scope
  fnc : Str → Bool
  fns : List (Nat × FnI)
  cns : List Str
  free : List Str
  clss : List Str := []
  exs : List (Str × Option Str) := []
/-- how a def is come by: a name of the module; a method of a class -/
def ReachF (K : PySem.W.Frag) (mg : Str → Option Value) (i : FnI) (a : Addr) : Prop := match i.own with
  | none => mg i.name = some (.ref a) ∧ PySem.W.keepIn K (.ref a) = true
  | some (c, m) => Cls K (He.ga K c) ∧ Meth K (He.ga K c) m a
structure FnGood (X : Cx) (k : Nat) (i : FnI) (S : Spec) : Prop where
  ok : ∃ a fd kf, kf + 3 ≤ k ∧ FnOk X.prog X.w X.K X.mg X.base (L2.CX X.prog X.w) kf a fd i.ps (toSp X.K i.ps.length S) ∧ ReachF X.K X.mg i a ∧ ∀ sh ∈ i.shapes, KSh X.K fd i.ps sh
/-- what isinstance asks of a class's instances -/
structure IsF (K : PySem.W.Frag) (D : Addr) : Prop where
  ha : PySem.W.findIn K (.ref D) "__class__" = some (some (.builtin "object.__class__"))
  hn : PySem.W.specialIn K (.builtin "object.__class__") "__get__" = some (some (.builtin "getset_descriptor.__get__"))
  ht : PySem.W.takesIn K (.builtin "object.__class__") = some true
  hm : PySem.W.mroIn K D (.type "object") = some true
def isFB (K : PySem.W.Frag) (D : Addr) : Bool := decide (PySem.W.findIn K (.ref D) "__class__" = some (some (.builtin "object.__class__"))) && (decide (PySem.W.specialIn K (.builtin "object.__class__") "__get__" = some (some (.builtin "getset_descriptor.__get__"))) && (decide (PySem.W.takesIn K (.builtin "object.__class__") = some true) && decide (PySem.W.mroIn K D (.type "object") = some true)))
theorem isFB_ok {K : PySem.W.Frag} {D : Addr} (h : isFB K D = true) : IsF K D := by
  unfold isFB at h
  simp only [Bool.and_eq_true, decide_eq_true_eq] at h
  exact ⟨h.1, h.2.1, h.2.2.1, h.2.2.2⟩
/-- an own class, plain -/
structure ClsOk (K : PySem.W.Frag) (mg : Str → Option Value) (c : Str) : Prop where
  mg : mg c = some (.ref (He.ga K c))
  cls : Cls K (He.ga K c)
  mks : PySem.W.makesIn K (He.ga K c) = true
  kp : PySem.W.keepIn K (.ref (He.ga K c)) = true
  isf : IsF K (He.ga K c)
/-- the promise of an exception's own __init__ -/
def spX (K : PySem.W.Frag) (b : Bs) (c : Addr) (f : Str) : Sp := fun vs H Q _ => ∃ a v, vs = [.ref a, v] ∧ H a = some (exo a c none) ∧ ∀ d, H d = none → d ≠ a → Q .non (upd (upd H d (exd d [(f, v)])) a (exo a c (some d)))
/-- an own class of exceptions: without an __init__, or with one that keeps a field -/
def ExOk (P : Program) (w : World) (K : PySem.W.Frag) (mg : Str → Option Value) (base : Heap) (k : Nat) (c : Str) : Option Str → Prop
  | none => mg c = some (.ref (He.ga K c)) ∧ PySem.W.keepIn K (.ref (He.ga K c)) = true ∧ PySem.W.subIn K (.ref (He.ga K c)) (.type "BaseException") = some true ∧ PySem.W.typeIn K (.ref (He.ga K c)) = some (.type "type") ∧ ∃ b : Bs, PySem.W.excIn K (He.ga K c) b.bm b.newId = true
  | some f => mg c = some (.ref (He.ga K c)) ∧ (f ≠ Str.empty → ∃ (b : Bs) (a : Addr) (fd : FuncData) (ps : List Str) (kf : Nat), ExB b K (He.ga K c) ∧ PySem.W.findIn K (.ref (He.ga K c)) "__init__" = some (some (.ref a)) ∧ PySem.W.typeIn K (.ref a) = some (.type "function") ∧ kf + 3 ≤ k ∧
      FnOk P w K mg base (L2.CX P w) kf a fd ps (spX K b (He.ga K c) f) ∧ Binds K fd ps [])
/-- the exceptions' classes stand so to one another -/
def SubOk (K : PySem.W.Frag) (a b : Str) (r : Bool) : Prop := PySem.W.exmOne K (.ref (He.ga K a)) (.ref (He.ga K b)) = some r ∧ PySem.W.kitOne K (.ref (He.ga K a)) (.ref (He.ga K b)) = some r ∧ ExcC K (He.ga K a)
def SubBOk (K : PySem.W.Frag) (a b : Str) (r : Bool) : Prop := ∃ n : String, bootBuiltins b = some (.type n) ∧ PySem.W.kitOne K (.ref (He.ga K a)) (.type n) = some r ∧ PySem.W.kitMeta n = true ∧ ExcC K (He.ga K a)
def tyNms : List String := ["NoneType", "bool", "int", "str", "tuple", "list", "dict"]
/-- a name of a class: none of the plain things is of it -/
structure KtOk (K : PySem.W.Frag) (mg : Str → Option Value) (b : Bool) (c : Str) : Prop where
  mg : mg c = some (.ref (He.ga K c))
  kt : b = true → ∀ n ∈ tyNms, PySem.W.kitOne K (.type n) (.ref (He.ga K c)) = some false
structure COk (C : Ctx) (G : Prg) (k : Nat) (E : XKs) (X : Cx) : Prop where
  N : X.N = C.N
  nd : C.N.Nodup
  sc : X.env.scope = C.sc
  kind : C.sc.kind = .function
  fnc : X.fn = C.fnc
  calm : X.calm = true
  room : Room k X.A
  free : ∀ x ∈ C.free, X.mg x = none
  cns : ∀ (i : Nat) x, C.cns[i]? = some x → ∃ u v, X.mg x = some u ∧ RelV v u ∧ ∀ H h, Rep X.K H h (G.Γ i) v
  fns : ∀ f i, C.fns.lookup f = some i → FnGood X k i (G.Φ f) ∧ ∀ (s : Nat) sh, i.shapes[s]? = some sh → G.sh f s = sh
  fl : ∀ c f, G.fl c f = true → Cls X.K (He.ga X.K c) ∧ NoAttr X.K (He.ga X.K c) f
  cls : ∀ c ∈ C.clss, ClsOk X.K X.mg c
  oc : ∀ c, G.oc c = true → c ∈ C.clss
  ock : ∀ a b, G.oc a = true → G.oc b = true → PySem.W.kitOne X.K (.ref (He.ga X.K a)) (.ref (He.ga X.K b)) = some (decide (a = b))
  nms : ∀ c, (c ∈ C.clss ∨ ∃ o, (c, o) ∈ C.exs) → KtOk X.K X.mg G.kt c
  exs : ∀ p ∈ C.exs, ExOk X.prog X.w X.K X.mg X.base k p.1 p.2
  sub : ∀ a b r, G.sub a b = some r → SubOk X.K a b r
  subB : ∀ a b r, G.subB a b = some r → SubBOk X.K a b r
  xfl : ∀ c f, G.xfl c f = true → XfC X.K (He.ga X.K c) ∧ PySem.W.findIn X.K (.ref (He.ga X.K c)) f = some none
  px : ∀ σ, PassesAt (L2.CX X.prog X.w) X σ (E σ)
  po : PassesOwn (model X.prog X.w) X.A X.env X.xe

/-! ### checks of names -/
def okName (x : Str) : Bool := !(x == ("__debug__" : Str)) && !(x == ("__classdict__" : Str)) && !(x == ("__name__" : Str))
def visB (sc : Scope) (x : Str) : Bool := match sc.names.lookup x with
  | some .local => true
  | some .cell => true
  | some .free => true
  | _ => false
def locB (C : Ctx) (x : Str) : Bool := match C.sc.names.lookup x with
  | some .local => true
  | some .cell => C.fnc x
  | _ => false
def glB (sc : Scope) (x : Str) : Bool := decide (sc.names.lookup x = some .globalImplicit)
def mVar (C : Ctx) (i : Nat) (x : Str) : Bool := decide (C.N[i]? = some x) && (visB C.sc x && okName x)
def mSet (C : Ctx) (i : Nat) (x : Str) : Bool := decide (C.N[i]? = some x) && locB C x
def mGlo (C : Ctx) (k : Nat) (x : Str) : Bool := decide (C.cns[k]? = some x) && (glB C.sc x && okName x)
def mBlt (C : Ctx) (x : Str) : Bool := decide (x ∈ C.free) && (glB C.sc x && okName x)
theorem and2 {a b : Bool} (h : (a && b) = true) : a = true ∧ b = true := Bool.and_eq_true_iff.mp h
section
variable {C : Ctx} {G : Prg} {k : Nat} {E : XKs} {X : Cx} {x : Str}
theorem okName.dbg (h : okName x = true) : (x == ("__debug__" : Str)) = false := by
  unfold okName at h
  simp only [Bool.and_eq_true, Bool.not_eq_true'] at h
  exact h.1.1
theorem okName.cd (h : okName x = true) : (x == ("__classdict__" : Str)) = false := by
  unfold okName at h
  simp only [Bool.and_eq_true, Bool.not_eq_true'] at h
  exact h.1.2
theorem okName.nm (h : okName x = true) : x ≠ "__name__" := by
  unfold okName at h
  simp only [Bool.and_eq_true, Bool.not_eq_true'] at h
  exact fun e => by rw [e] at h; exact absurd h.2 (by decide)
theorem vis_of (ok : COk C G k E X) (h : visB C.sc x = true) : Vis X.env.scope x := by
  unfold visB at h
  unfold Vis
  rw [ok.sc]
  split at h
  · rename_i e; exact .inl e
  · rename_i e; exact .inr (.inl e)
  · rename_i e; exact .inr (.inr e)
  · cases h
theorem loc_of (ok : COk C G k E X) (h : locB C x = true) : L2.Loc X.env.scope x ∧ (X.fn x = true ∨ X.env.scope.names.lookup x = some .local) := by
  unfold locB at h
  unfold L2.Loc
  rw [ok.sc, ok.fnc]
  split at h
  · rename_i e; exact ⟨.inl e, .inr e⟩
  · rename_i e; exact ⟨.inr e, .inl h⟩
  · cases h
theorem gl_of (ok : COk C G k E X) (h : glB C.sc x = true) : Gl X x := by
  unfold Gl PySem.Env.kindOf
  rw [ok.sc]
  exact of_decide_eq_true h
end

/-! ### rules by data: names, constants -/
section
variable {C : Ctx} {G : Prg} {k : Nat} {E : XKs} {X : Cx} {x : Str} {pos : Pos}
theorem d_const {e : Expr} {v : V} {d : D} (p : PE X e (tC v)) (r : ∀ H h, Rep X.K H h d v) : PE X e (tD X.K E fun _ h Q _ => Q d h) :=
  p.weak fun σ H Q ⟨ρ, h, Qd, Ed, re, hr, t, c, cx⟩ => c.here hr (r H h) t
theorem d_loc (ok : COk C G k E X) {i : Nat} (h : mVar C i x = true) : PE X (.Name x pos) (tD X.K E (wpE G (.loc i))) := by
  obtain ⟨h1, h2⟩ := and2 h
  obtain ⟨h2, h3⟩ := and2 h2
  refine (pe_var (i := i) (by rw [ok.N]; exact of_decide_eq_true h1) (vis_of ok h2) (okName.dbg h3) (okName.cd h3)).weak fun σ H Q ⟨ρ, hh, Qd, Ed, re, hr, t, c, cx⟩ => ?_
  rw [wpE] at t
  split at t
  · rename_i d e
    obtain ⟨v, e1, r1⟩ := re.get i d (lk_get e)
    exact ⟨v, e1, c.here hr r1 t⟩
  · exact t.elim
theorem d_glo (ok : COk C G k E X) {i : Nat} (h : mGlo C i x = true) : PE X (.Name x pos) (tD X.K E (wpE G (.glo i))) := by
  obtain ⟨h1, h2⟩ := and2 h
  obtain ⟨h2, h3⟩ := and2 h2
  obtain ⟨u, v, m, r, rp⟩ := ok.cns i x (of_decide_eq_true h1)
  refine (pe_glob (gl_of ok h2) m r (okName.dbg h3)).weak fun σ H Q ⟨ρ, hh, Qd, Ed, re, hr, t, c, cx⟩ => ?_
  rw [wpE] at t
  exact c.here hr (rp H hh) t
end

/-! ### rules by data: operations -/
section
variable {K : PySem.W.Frag} {G : Prg} {E : XKs} {X : Cx} {a b d : Expr} {Ta Tb Td : TD} {pos : Pos}
theorem d_op {o : Operator} {r : RD2} (ho : OpR X (binaryOp o) (lift2 X.K r)) (ha : PE X a (tD X.K E Ta)) (hb : PE X b (tD X.K E Tb)) : PE X (.BinOp a o b pos) (tD X.K E (bind2 Ta Tb r)) :=
  (pe_op ho ha hb).weak op_weak
theorem d_cmp {o : CmpOp} {r : RD2} (ho : OpR X (compareOp o) (lift2 X.K r)) (ha : PE X a (tD X.K E Ta)) (hb : PE X b (tD X.K E Tb)) (hm : behindInMarks o b = false) : PE X (.Compare a [o] [b] pos) (tD X.K E (bind2 Ta Tb r)) :=
  (pe_cmpR ho ha hb hm).weak op_weak
/-- a value that must be a yes or no -/
theorem Cl.bl {h : Hd} {H : Hp} {Qb : Bool → Hd → Prop} {Q : Bool → Hp → Prop} (c : Clt K h H Qb Q) : Cl K h H (blQ Qb) (fun x H' => ∃ k, x = .bl k ∧ Q k H') := fun d h1 v H1 f hr r q => by
  cases d with
  | bl b => cases r; exact ⟨b, rfl, c b h1 H1 f hr q⟩
  | _ => exact q.elim
theorem d_cmpT {o : CmpOp} {r : RD2} (ho : OpR X (compareOp o) (lift2 X.K r)) (ha : PE X a (tD X.K E Ta)) (hb : PE X b (tD X.K E Tb)) (hm : behindInMarks o b = false) :
    PT X (.Compare a [o] [b] pos) (tDt X.K E fun ρ h Q Xd => Ta ρ h (fun x h1 => Tb ρ h1 (fun y h2 => r x y h2 (blQ Q)) Xd) Xd) :=
  (pt_cmpR ho ha hb hm).weak fun σ H Q ⟨ρ, h, Qd, Ed, re, hr, t, c, cx⟩ => op_weak σ H _ ⟨ρ, h, blQ Qd, Ed, re, hr, t, Cl.bl c, cx⟩
theorem d_neg (ha : PE X a (tD X.K E Ta)) : PE X (.UnaryOp .USub a pos) (tD X.K E fun ρ h Q Xd => Ta ρ h (fun x h1 => match x with | .int i => Q (.int (-i)) h1 | _ => False) Xd) :=
  (pe_un un_neg ha).weak fun σ H Q ⟨ρ, h, Qd, Ed, re, hr, t, c, cx⟩ => ⟨ρ, h, _, Ed, re, hr, t, fun d1 h1 v1 H1 f1 hr1 r1 q1 => by
    cases d1 with
    | int i => cases r1; exact ⟨i, rfl, (c.frm f1).here hr1 (.int _) q1⟩
    | _ => exact q1.elim, cx⟩
theorem d_chn {o o' : CmpOp} {r r' : RD2} (ho : OpR X (compareOp o) (lift2 X.K r)) (ho' : OpR X (compareOp o') (lift2 X.K r')) (ha : PE X a (tD X.K E Ta)) (hb : PE X b (tD X.K E Tb)) (hd : PE X d (tD X.K E Td)) (hm : lastMarks [o, o'] [b, d] = false) :
    PE X (.Compare a [o, o'] [b, d] pos) (tD X.K E fun ρ h Q Xd => Ta ρ h (fun x h1 => Tb ρ h1 (fun y h2 => r x y h2 (fun z h3 => match z with
      | .bl k => if k = true then Td ρ h3 (fun z h4 => r' y z h4 Q) Xd else Q (.bl false) h3
      | _ => False)) Xd) Xd) :=
  (pe_chain ho ho' ha hb hd hm).weak fun σ H Q ⟨ρ, h, Qd, Ed, re, hr, t, c, cx⟩ => by
    refine ⟨ρ, h, _, Ed, re, hr, t, fun d1 h1 v1 H1 f1 hr1 r1 q1 => ?_, cx⟩
    refine ⟨ρ, h1, _, Ed, re.frm f1, hr1, q1, fun d2 h2 v2 H2 f2 hr2 r2 q2 => ?_, cx.frm f1⟩
    refine ⟨h2, d1, d2, _, hr2, r1.frm f2, r2, q2, fun d3 h3 v3 H3 f3 hr3 r3 q3 => ?_⟩
    cases d3 with
    | bl k =>
      cases r3
      refine ⟨k, rfl, ?_⟩
      have f := f1.trans (f2.trans f3)
      have q3 : if k = true then Td ρ h3 (fun z h4 => r' d2 z h4 Qd) Ed else Qd (.bl false) h3 := q3
      cases k with
      | true =>
        rw [if_pos rfl] at q3 ⊢
        refine ⟨ρ, h3, _, Ed, re.frm f, hr3, q3, fun d4 h4 v4 H4 f4 hr4 r4 q4 => ?_, cx.frm f⟩
        exact ⟨h4, d2, d4, Qd, hr4, (r2.frm f3).frm f4, r4, q4, c.frm (f.trans f4)⟩
      | false =>
        rw [if_neg Bool.false_ne_true] at q3 ⊢
        exact (c.frm f).here hr3 (.bl _) q3
    | _ => exact q3.elim
theorem d_chnT {o o' : CmpOp} {r r' : RD2} (ho : OpR X (compareOp o) (lift2 X.K r)) (ho' : OpR X (compareOp o') (lift2 X.K r')) (ha : PE X a (tD X.K E Ta)) (hb : PE X b (tD X.K E Tb)) (hd : PE X d (tD X.K E Td)) (hm : lastMarks [o, o'] [b, d] = false) :
    PT X (.Compare a [o, o'] [b, d] pos) (tDt X.K E fun ρ h Q Xd => Ta ρ h (fun x h1 => Tb ρ h1 (fun y h2 => r x y h2 (blQ fun k h3 => if k = true then Td ρ h3 (fun z h4 => r' y z h4 (blQ Q)) Xd else Q false h3)) Xd) Xd) :=
  (pt_chain ho ho' ha hb hd hm).weak fun σ H Q ⟨ρ, h, Qd, Ed, re, hr, t, c, cx⟩ => by
    refine ⟨ρ, h, _, Ed, re, hr, t, fun d1 h1 v1 H1 f1 hr1 r1 q1 => ?_, cx⟩
    refine ⟨ρ, h1, _, Ed, re.frm f1, hr1, q1, fun d2 h2 v2 H2 f2 hr2 r2 q2 => ?_, cx.frm f1⟩
    refine ⟨h2, d1, d2, _, hr2, r1.frm f2, r2, q2, fun d3 h3 v3 H3 f3 hr3 r3 q3 => ?_⟩
    cases d3 with
    | bl k =>
      cases r3
      refine ⟨k, rfl, ?_⟩
      have f := f1.trans (f2.trans f3)
      have q3 : if k = true then Td ρ h3 (fun z h4 => r' d2 z h4 (blQ Qd)) Ed else Qd false h3 := q3
      cases k with
      | true =>
        rw [if_pos rfl] at q3 ⊢
        refine ⟨ρ, h3, _, Ed, re.frm f, hr3, q3, fun d4 h4 v4 H4 f4 hr4 r4 q4 => ?_, cx.frm f⟩
        exact ⟨h4, d2, d4, blQ Qd, hr4, (r2.frm f3).frm f4, r4, q4, Cl.bl (Clt.frm c (f.trans f4))⟩
      | false =>
        rw [if_neg Bool.false_ne_true] at q3 ⊢
        exact ⟨false, rfl, Clt.frm c f false h3 H3 Frm.refl hr3 q3⟩
    | _ => exact q3.elim
/-- truth of a value -/
theorem d_truth (ha : PE X a (tD X.K E Ta)) (he : plainT a = true) : PT X a (tDt X.K E fun ρ h Q Xd => Ta ρ h (fun x h1 => truQ x h1 fun k => Q k h1) Xd) :=
  (pt_truth ha (plainT_eq he)).weak fun σ H Q ⟨ρ, h, Qd, Ed, re, hr, t, c, cx⟩ => ⟨ρ, h, _, Ed, re, hr, t, fun d1 h1 v1 H1 f1 hr1 r1 q1 => by
    obtain ⟨k, t1, q2⟩ := tru_ok2 hr1 r1 q1
    exact ⟨k, t1, c k h1 H1 f1 hr1 q2⟩, cx⟩
theorem d_and {rest : List Expr} (ha : PE X a (tD X.K E Ta)) (hb : PE X (.BoolOp .And (b :: rest) pos) (tD X.K E Tb)) : PE X (.BoolOp .And (a :: b :: rest) pos) (tD X.K E fun ρ h Q Xd => Ta ρ h (fun x h1 => truQ x h1 fun k => if k = true then Tb ρ h1 Q Xd else Q x h1) Xd) :=
  (pe_andT ha hb).weak fun σ H Q ⟨ρ, h, Qd, Ed, re, hr, t, c, cx⟩ => ⟨ρ, h, _, Ed, re, hr, t, fun d1 h1 v1 H1 f1 hr1 r1 q1 => by
    obtain ⟨k, t1, q2⟩ := tru_ok2 hr1 r1 q1
    refine ⟨k, t1, ?_⟩
    cases k with
    | true => rw [if_pos rfl] at q2 ⊢; exact ⟨ρ, h1, Qd, Ed, re.frm f1, hr1, q2, c.frm f1, cx.frm f1⟩
    | false => rw [if_neg Bool.false_ne_true] at q2 ⊢; exact (c.frm f1).here hr1 r1 q2, cx⟩
theorem d_or {rest : List Expr} (ha : PE X a (tD X.K E Ta)) (hb : PE X (.BoolOp .Or (b :: rest) pos) (tD X.K E Tb)) : PE X (.BoolOp .Or (a :: b :: rest) pos) (tD X.K E fun ρ h Q Xd => Ta ρ h (fun x h1 => truQ x h1 fun k => if k = true then Q x h1 else Tb ρ h1 Q Xd) Xd) :=
  (pe_orT ha hb).weak fun σ H Q ⟨ρ, h, Qd, Ed, re, hr, t, c, cx⟩ => ⟨ρ, h, _, Ed, re, hr, t, fun d1 h1 v1 H1 f1 hr1 r1 q1 => by
    obtain ⟨k, t1, q2⟩ := tru_ok2 hr1 r1 q1
    refine ⟨k, t1, ?_⟩
    cases k with
    | false => rw [if_neg Bool.false_ne_true] at q2 ⊢; exact ⟨ρ, h1, Qd, Ed, re.frm f1, hr1, q2, c.frm f1, cx.frm f1⟩
    | true => rw [if_pos rfl] at q2 ⊢; exact (c.frm f1).here hr1 r1 q2, cx⟩
theorem d_not (ha : PE X a (tD X.K E Ta)) : PE X (.UnaryOp .Not a pos) (tD X.K E fun ρ h Q Xd => Ta ρ h (fun x h1 => truQ x h1 fun k => Q (.bl (!k)) h1) Xd) :=
  (pe_notT ha).weak fun σ H Q ⟨ρ, h, Qd, Ed, re, hr, t, c, cx⟩ => ⟨ρ, h, _, Ed, re, hr, t, fun d1 h1 v1 H1 f1 hr1 r1 q1 => by
    obtain ⟨k, t1, q2⟩ := tru_ok2 hr1 r1 q1
    exact ⟨k, t1, (c.frm f1).here hr1 (.bl _) q2⟩, cx⟩
variable {Ca Cb : TDt}
theorem d_andW {rest : List Expr} (ha : PT X a (tDt X.K E Ca)) (hb : PW X (.BoolOp .And (b :: rest) pos) (tDt X.K E Cb)) : PW X (.BoolOp .And (a :: b :: rest) pos) (tDt X.K E fun ρ h Q Xd => Ca ρ h (fun k h1 => if k = true then Cb ρ h1 Q Xd else Q false h1) Xd) :=
  (pw_and ha hb).weak fun σ H Q ⟨ρ, h, Qd, Ed, re, hr, t, c, cx⟩ => ⟨ρ, h, _, Ed, re, hr, t, fun k h1 H1 f1 hr1 q1 => by
    cases k with
    | true => rw [if_pos rfl] at q1 ⊢; exact ⟨ρ, h1, Qd, Ed, re.frm f1, hr1, q1, Clt.frm c f1, cx.frm f1⟩
    | false => rw [if_neg Bool.false_ne_true] at q1 ⊢; exact c _ _ _ f1 hr1 q1, cx⟩
theorem d_orW {rest : List Expr} (ha : PT X a (tDt X.K E Ca)) (hb : PW X (.BoolOp .Or (b :: rest) pos) (tDt X.K E Cb)) : PW X (.BoolOp .Or (a :: b :: rest) pos) (tDt X.K E fun ρ h Q Xd => Ca ρ h (fun k h1 => if k = true then Q true h1 else Cb ρ h1 Q Xd) Xd) :=
  (pw_or ha hb).weak fun σ H Q ⟨ρ, h, Qd, Ed, re, hr, t, c, cx⟩ => ⟨ρ, h, _, Ed, re, hr, t, fun k h1 H1 f1 hr1 q1 => by
    cases k with
    | false => rw [if_neg Bool.false_ne_true] at q1 ⊢; exact ⟨ρ, h1, Qd, Ed, re.frm f1, hr1, q1, c.frm f1, cx.frm f1⟩
    | true => rw [if_pos rfl] at q1 ⊢; exact c _ _ _ f1 hr1 q1, cx⟩
theorem d_notT (ha : PT X a (tDt X.K E Ca)) : PT X (.UnaryOp .Not a pos) (tDt X.K E fun ρ h Q Xd => Ca ρ h (fun k h1 => Q (!k) h1) Xd) :=
  (pt_not ha).weak fun σ H Q ⟨ρ, h, Qd, Ed, re, hr, t, c, cx⟩ => ⟨ρ, h, _, Ed, re, hr, t, fun k h1 H1 f1 hr1 q1 => c _ _ _ f1 hr1 q1, cx⟩
theorem d_ife (hc : PT X d (tDt X.K E Ca)) (ha : PE X a (tD X.K E Ta)) (hb : PE X b (tD X.K E Tb)) : PE X (.IfExp d a b pos) (tD X.K E fun ρ h Q Xd => Ca ρ h (fun k h1 => if k = true then Ta ρ h1 Q Xd else Tb ρ h1 Q Xd) Xd) :=
  (pe_ifExp hc ha hb).weak fun σ H Q ⟨ρ, h, Qd, Ed, re, hr, t, c, cx⟩ => ⟨ρ, h, _, Ed, re, hr, t, fun k h1 H1 f1 hr1 q1 => by
    cases k with
    | true => rw [if_pos rfl] at q1 ⊢; exact ⟨ρ, h1, Qd, Ed, re.frm f1, hr1, q1, c.frm f1, cx.frm f1⟩
    | false => rw [if_neg Bool.false_ne_true] at q1 ⊢; exact ⟨ρ, h1, Qd, Ed, re.frm f1, hr1, q1, c.frm f1, cx.frm f1⟩, cx⟩
variable {es : List Expr} {Ts : TDs}
theorem da_nil : PA X [] (tDs X.K E fun _ h Q _ => Q [] h) := pa_nil.weak fun σ H Q ⟨ρ, h, Qd, Ed, re, hr, t, c, cx⟩ => c [] h [] H Frm.refl hr .nil t
theorem da_cons (ha : PE X a (tD X.K E Ta)) (hr : PA X es (tDs X.K E Ts)) (hs : noStar (a :: es) = true) : PA X (a :: es) (tDs X.K E fun ρ h Q Xd => Ta ρ h (fun x h1 => Ts ρ h1 (fun xs h2 => Q (x :: xs) h2) Xd) Xd) :=
  (pa_cons ha hr ((noStar_cons hs).2 _)).weak fun σ H Q ⟨ρ, h, Qd, Ed, re, hr, t, c, cx⟩ => by
    refine ⟨ρ, h, _, Ed, re, hr, t, fun d1 h1 v1 H1 f1 hr1 r1 q1 => ?_, cx⟩
    refine ⟨ρ, h1, _, Ed, re.frm f1, hr1, q1, fun d2 h2 v2 H2 f2 hr2 r2 q2 => ?_, cx.frm f1⟩
    exact c _ _ _ _ (f1.trans f2) hr2 (.cons (r1.frm f2) r2) q2
theorem d_tup {kk : Nat} (h : PA X es (tDs X.K E Ts)) : PE X (.Tuple es kk pos) (tD X.K E fun ρ h Q Xd => Ts ρ h (fun ds h1 => ds.length ≤ sizeLine ∧ Q (.tup ds) h1) Xd) :=
  (pe_tup h).weak fun σ H Q ⟨ρ, h, Qd, Ed, re, hr, t, c, cx⟩ => ⟨ρ, h, _, Ed, re, hr, t, fun d1 h1 v1 H1 f1 hr1 r1 q1 => ⟨by rw [← r1.length]; exact q1.1, fun p n => (c.frm f1).fresh hr1 n (Rep.newT hr1 r1 n) q1.2⟩, cx⟩
theorem mkL_ok {m : Bool} {ds : List D} {vs : List V} {h : Hd} {H : Hp} {Qd : QD} {Q : VK} {p : Addr} (hr : HRel K H h) (r : Reps K H h ds vs) (q : mkL m ds h Qd) (c : Cl K h H Qd Q) (n : H p = none) : Q (.ref p) (upd H p (.lst vs)) := by
  cases m with
  | true =>
    have at_ : At K (upd H p (.lst vs)) (hupd h p (.lst ds)) p (.lst ds) := ⟨_, upd_same, r.frm (Frm.new n (hr.gone n))⟩
    exact c _ _ _ _ (Frm.new n (hr.gone n)) (hr.new n at_) (.ref p) (q p (hr.gone n))
  | false =>
    exact c.fresh hr n (Rep.newL hr r n) q
theorem d_lst {m : Bool} (h : PA X es (tDs X.K E Ts)) : PE X (.List es pos) (tD X.K E fun ρ h Q Xd => Ts ρ h (fun ds h1 => ds.length ≤ sizeLine ∧ mkL m ds h1 Q) Xd) :=
  (pe_lst h).weak fun σ H Q ⟨ρ, h, Qd, Ed, re, hr, t, c, cx⟩ => ⟨ρ, h, _, Ed, re, hr, t, fun d1 h1 v1 H1 f1 hr1 r1 q1 => ⟨by rw [← r1.length]; exact q1.1, fun p n => mkL_ok hr1 r1 q1.2 (c.frm f1) n⟩, cx⟩
theorem d_ix (ha : PE X a (tD X.K E Ta)) (hb : PE X b (tD X.K E Tb)) (hs : isSlice b = false) : PE X (.Subscript a b pos) (tD X.K E (bind2 Ta Tb ixR)) :=
  (pe_ix do_ix ha hb (plainIx_of hs)).weak op_weak
end
end Y
namespace Y
open PySem PySem.Spec PyProof.Rows L2
theorem mcall_eq {o : Expr} {m : Str} {apos pos : Pos} {env : PySem.Env} {args : List Expr} {kws : List Keyword} (hb : attributeBase o m env (eval o env) = eval o env)
    (hf : methodCallForm (args.length + kws.length) (backTo pos (starEach args env)) (backToKw pos (keywordEach kws env)) = true) (hl : (apos.endLine == pos.line) = true) :
    eval (.Call (.Attribute o m apos) args kws pos) env = (do
      let ov ← eval o env
      standAt apos.atName
      let (f, first) ← holding [ov] (getMethod ov m (plainOf o env))
      callWith pos f first (backTo pos (starEach args env)) (backToKw pos (keywordEach kws env))) := by
  have e : eval (.Call (.Attribute o m apos) args kws pos) env = (do
      let ov ← attributeBase o m env (eval o env)
      standAt apos.atName
      methodCall o m apos pos env ov (args.length + kws.length) (backTo pos (starEach args env)) (backToKw pos (keywordEach kws env))) := rfl
  rw [e, hb]
  congr 1
  funext ov
  congr 1
  funext _
  exact mcall_line hf hl
/-! ### try: body / except C as n: m = n -/
theorem xo_own {a x : Addr} {c : Value} {d : Option Addr} : xo a c d ≠ .own x := fun z => by
  have z' : HO.ext _ = HO.own x := z
  cases z'
theorem xo_tup {a : Addr} {c : Value} {d : Option Addr} {xs : List V} : xo a c d ≠ .tup xs := fun z => by
  have z' : HO.ext _ = HO.tup xs := z
  cases z'
theorem xo_ok {P : Program} {w : World} {H : Hp} {h : Heap} {a : Addr} {cls : Value} {d : Option Addr} {oe : Obj} (e : h.get? a = some oe) (z : Zc cls d oe) (f : ∃ vs, oe.data = .fields vs) : ObjOk P w H h a (xo a cls d) :=
  ⟨⟨oe, f.choose, e, z, f.choose_spec⟩, ⟨oe, e⟩, fun _ _ ⟨o, v, q, r⟩ k => ⟨o, v, k o q, r⟩⟩
theorem xo_at {P : Program} {w : World} {H : Hp} {h : Heap} {a : Addr} {cls : Value} {d : Option Addr} (hok : HOk P w H h) (he : H a = some (xo a cls d)) : ∃ oe vs, h.get? a = some oe ∧ Zc cls d oe ∧ oe.data = .fields vs := by
  have x : ObjOk P w H h a (.ext fun h => ∃ oe vs, h.get? a = some oe ∧ Zc cls d oe ∧ oe.data = .fields vs) := hok a _ he
  exact x.1
/-- what was caught is held as an object of ours -/
theorem Inv.held {X : Cx} {pins : List (Addr × Obj)} {σ : L2.St} {H : Hp} {s : Shared} {a : Addr} {oe : Obj} {cls : Value} {d : Option Addr} (I : Inv X ((a, oe) :: pins) σ H s) (n0 : X.s_0.heap.get? a = none) (np : ∀ p ∈ X.pn ++ pins, p.1 ≠ a) (z : Zc cls d oe) (f : ∃ vs, oe.data = .fields vs) :
    Inv X pins σ (upd H a (xo a cls d)) s := by
  obtain ⟨ha, hn, nL, nF, nc⟩ := I.pin (a, oe) (List.mem_append_right _ List.mem_cons_self)
  have ha : s.heap.get? a = some oe := ha
  have hn : H a = none := hn
  have nL : a ≠ X.env.locals := nL
  have ne : ∀ {b : Addr} {o : HO}, H b = some o → b ≠ a := fun {b o} e q => by rw [q, hn] at e; cases e
  have ncell : ∀ x c, X.env.cells.lookup x = some c → c ≠ a := fun x c e q => by
    obtain ⟨v, o, h1, h2⟩ := I.cell x c e
    rw [q, ha] at h1; cases h1
    exact nc _ h2
  refine ⟨I.ok, I.os, I.bare, ⟨I.base.keep, I.base.slot, fun b o e n x => ?_, I.base.there, fun b xs e => ?_, fun b o u e => ?_, fun b ps e => ?_⟩, I.loc, I.cell, ?_, fun x c e => ?_, fun p hp => ?_, fun b u e => ?_, I.len⟩
  · have q : b ≠ a := fun q => by rw [q, n0] at e; cases e
    rw [upd_ne q]; exact I.base.free b o e n x
  · have q := I.base.tups b xs e
    rw [upd_ne (ne q)]; exact q
  · have q := I.base.frzs b o u e
    rw [upd_ne (ne q)]; exact q
  · obtain ⟨m, q⟩ := I.base.tbls b ps e
    exact ⟨m, by rw [upd_ne (ne q)]; exact q⟩
  · rw [upd_ne (Ne.symm nL)]; exact I.free
  · rw [upd_ne (ncell x c e)]; exact I.freeC x c e
  · have hp' : p ∈ X.pn ++ (a, oe) :: pins := by
      rcases List.mem_append.mp hp with q | q
      · exact List.mem_append_left _ q
      · exact List.mem_append_right _ (List.mem_cons_of_mem _ q)
    obtain ⟨h1, h2, h3⟩ := I.pin p hp'
    exact ⟨h1, by rw [upd_ne (np p hp)]; exact h2, h3⟩
  · by_cases hb : b = a
    · subst hb
      rw [upd_same] at e; cases e
      exact xo_ok ha z f
    · rw [upd_ne hb] at e
      exact (I.hok b u e).stay (fun c v hc q => q) (fun c q => by rw [upd_ne (ne q)]; exact q) fun c xs q => by rw [upd_ne (ne q)]; exact q
def wKeep (K : PySem.W.Frag) (c : Value) (i j : Nat) (Wout : WX) (D : L2.Ends) : WX := fun cls d σ H =>
  ∃ b, PySem.W.exmOne K cls c = some b ∧ (b = true → ∀ a, H a = none → D.nx ((σ.set j (some (.ref a))).set i none) (upd H a (xo a cls d))) ∧ (b = false → Wout cls d σ H)
theorem ps_try_keep {X : Cx} {x n m : Str} {c : Value} {i j : Nat} {body : List Stmt} {np0 pos pos' mp qp sp : Pos} {tb : WX → TS} {Wout : WX} (hs : X.stack = X.env :: X.outer) (hf : X.env.frame = some X.env.locals) (hex : X.ex = []) (hN : X.N.Nodup) (hi : X.N[i]? = some n) (hln : X.env.kindOf n = some .local)
    (hj : X.N[j]? = some m) (hlm : X.env.kindOf m = some .local) (hij : i ≠ j) (dn : okName n = true) (hc : Names X x c) (tk : Takes X Wout)
    (hb : ∀ (W : WX) (pn : List (Addr × Obj)) (xe : Value → Shared → Prop), Takes (X.tr pn xe) W → PassesOwn (model X.prog X.w) X.A X.env xe → PSs (X.tr pn xe) body (tb W)) :
    PS X (.Try body [.ExceptHandler (some (.Name x np0)) (some n) [.Assign [.Name m mp] (.Name n qp) sp] pos'] [] [] pos) (fun D σ H => tb (wKeep X.K c i j Wout D) D σ H) := by
  refine ⟨fun pins s σ H D I h => ?_⟩
  have ok := I.ok
  have hfr : X.A.frames = some (X.env :: X.outer) := by rw [ok.frames, hs]
  have hloc : L2.Loc X.env.scope n := .inl hln
  have hlocm : L2.Loc X.env.scope m := .inl hlm
  refine wpAny_Try_except ?_
  refine wpAny_mono ((hb (wKeep X.K c i j Wout D) (X.pn ++ pins) (fun e s₁ => wpAny (model X.prog X.w) X.A (noteFrame e X.env) (fun _ s₂ => wpAny (model X.prog X.w) X.A (setFlight e none) (fun _ s₃ =>
    wpAny (model X.prog X.w) X.A (handleBy e X.env [.ExceptHandler (some (.Name x np0)) (some n) [.Assign [.Name m mp] (.Name n qp) sp] pos']) (SP X pins D) X.xe s₃) X.xe s₂) X.xe s₁) (fun u s' xx => ?_) PassesOwn.looking).run [] s σ H D (I.toTry _) h) (fun f s1 hsp => ?_) (fun e s1 he => he)
  · obtain ⟨a, B, sI, pins', σ', H', cls, d, rfl, J', nb, up, sky, na, os, ag, b, hb1, hyes, hno⟩ := xx
    have J : Inv X pins σ' H' sI := J'.ofTry ok
    have sky' : Sky B (X.env :: X.outer) a (Zc cls d) X.env.locals s'.heap := by rw [← hs]; exact sky
    show wpAny (model X.prog X.w) X.A (noteFrame (.ref a) X.env) _ _ _
    refine Sky.land Zc.steady hfr hf sky' fun h3 fl3 up3 => ?_
    have J3 : Inv X pins σ' H' { s' with heap := h3 } := J.landed nb fl3.1 (up.trans up3) os ag
    obtain ⟨oe3, vs3, he3, hz3, hd3⟩ := fl3.there
    have notFr : ∀ {h : Heap} {o : Obj} {vs : Array Value}, h.FunFrames B (X.env :: X.outer) → h.get? a = some o → o.data = .fields vs → a ∉ frs (X.env :: X.outer) := fun {h o vs} ff e dd hm => by
      obtain ⟨_, o', e', hnf⟩ := ff.mem hm
      rw [e] at e'; cases e'
      exact hnf _ dd
    have nfr := notFr fl3.2.2.1 he3 hd3
    have nI : sI.heap.get? a = none := by
      cases q : sI.heap.get? a with
      | none => rfl
      | some o =>
        have z := nb a o q (by rw [hs]; exact nfr)
        rw [fl3.2.1] at z; cases z
    have n0 : X.s_0.heap.get? a = none := by
      cases q : X.s_0.heap.get? a with
      | none => rfl
      | some o =>
        obtain ⟨o', z⟩ := J.base.there a o q (by rw [hex]; exact fun z => nomatch z)
        rw [nI] at z; cases z
    have np : ∀ p ∈ X.pn ++ pins, p.1 ≠ a := fun p hp z => by
      have e := (J.pin p hp).1
      rw [z, nI] at e; cases e
    have nL : a ≠ X.env.locals := fun z => nfr (List.mem_filterMap.mpr ⟨X.env, List.mem_cons_self, by rw [hf, z]⟩)
    have nF : a ∉ X.fs := fun hm => by
      obtain ⟨e, he, q⟩ := List.mem_filterMap.mp hm
      exact nfr (List.mem_filterMap.mpr ⟨e, List.mem_cons_of_mem _ he, q⟩)
    have S3 := J3.suite he3 hd3 na nL nF
    refine wpAny_handleBy_cons (codeAny_handlers_test ?_) (by intro q; cases q)
    have LT : PySem.W.Looks (model X.prog X.w) h3 (typeOf (.ref a)) cls := fun A Q E s k q => wpAny_typeOf_ref (k _ _ he3) (by rw [hz3.1]; exact q)
    have LM := PySem.W.exm_one (M := model X.prog X.w) (J3.kIn) LT hb1
    have test : ∀ {Q : Value → Shared → Prop} {E : Value → Shared → Prop}, Q c { s' with heap := h3 } → wpAny (model X.prog X.w) (X.A.mark (some (.ref a))) (eval (.Name x np0) X.env) Q E { s' with heap := h3 } := fun {Q E} q => by
      obtain ⟨hg, hdbg, hm | ⟨hm, hv, hnn⟩⟩ := hc
      · exact ld_glob (X := X.suite a ((a, oe3) :: (X.pn ++ pins))) S3 hg hm q hdbg
      · exact ld_blt (X := X.suite a ((a, oe3) :: (X.pn ++ pins))) S3 hg hm hv q hnn hdbg
    refine test (LM.here ?_)
    cases b with
    | true =>
      refine codeAny_handlers_suite_as ?_
      refine HandSPX.lands_againZ fl3 fun h4 fl4 up4 => ?_
      have J4 : Inv X pins σ' H' { s' with heap := h4 } := J.landed nb fl4.1 ((up.trans up3).trans up4) os ag
      obtain ⟨oe4, vs4, he4, hz4, hd4⟩ := fl4.there
      have S4 := J4.suite he4 hd4 na nL nF
      refine store_ok (X := X.suite a ((a, oe4) :: (X.pn ++ pins))) (v := .ref a) S4 hN hi hloc rfl (fun s5 S5 => ?_) (.inr hln)
      have su : PSs (X.suite a ((a, oe4) :: (X.pn ++ pins))) [.Assign [.Name m mp] (.Name n qp) sp] (tAsg (tVar i) (gName j)) :=
        pss_one (ps_asg (pe_var hi (.inl hln) (okName.dbg dn) (okName.cd dn)) (pg_name hN hj hlocm (.inr hlm)))
      have len := S5.len
      have hiN : i < X.N.length := (List.getElem?_eq_some_iff.mp hi).1
      have gi : (σ'.set i (some (V.ref a)))[i]? = some (some (.ref a)) := by
        rw [List.getElem?_set_self]
        have : (σ'.set i (some (V.ref a))).length = X.N.length := len
        rw [List.length_set] at this
        rw [this]; exact hiN
      refine wpAny_mono (su.run [] s5 _ H' { nx := fun σ6 H6 => σ6 = (σ'.set i (some (.ref a))).set j (some (.ref a)) ∧ H6 = H', rt := fun _ _ => False, bk := fun _ _ => False, ct := fun _ _ => False } S5 ⟨.ref a, gi, rfl, rfl⟩) (fun f s6 hsp => ?_) (fun _ _ z => False.elim z)
      cases f with
      | next =>
        obtain ⟨σ6, H6, S6, e1, e2⟩ := hsp
        subst e1 e2
        have S6' : Inv X ((a, oe4) :: pins) ((σ'.set i (some (.ref a))).set j (some (.ref a))) H6 s6 :=
          ⟨ok, S6.os, S6.bare, S6.base, S6.loc, S6.cell, S6.free, S6.freeC, fun p hp => S6.pin p (by
            rw [List.append_nil]
            rcases List.mem_append.mp hp with q | q
            · exact List.mem_cons_of_mem _ (List.mem_append_left _ q)
            · rcases List.mem_cons.mp q with q | q
              · rw [q]; exact List.mem_cons_self
              · exact List.mem_cons_of_mem _ (List.mem_append_right _ q)), S6.hok, S6.len⟩
        refine gone_ok S6' hN hi hln fun s7 J7 => ⟨_, _, Inv.held J7 n0 np hz4 ⟨_, hd4⟩, ?_⟩
        have e : (((σ'.set i (some (V.ref a))).set j (some (V.ref a))).set i none) = ((σ'.set j (some (.ref a))).set i none) := by
          rw [List.set_comm _ _ hij, List.set_set]
        rw [e]
        exact hyes rfl a na
      | brk => obtain ⟨_, _, _, z⟩ := hsp; exact z.elim
      | cont => obtain ⟨_, _, _, z⟩ := hsp; exact z.elim
      | ret u => obtain ⟨_, _, _, _, _, z⟩ := hsp; exact z.elim
    | false =>
      show wpAny _ X.A (handleBy (.ref a) X.env []) _ _ _
      refine wpAny_handleBy_nil ?_
      obtain ⟨k1, k2, k3, oe, vs, T, oT, ts', he, hz, hd, h1, hr⟩ := id fl3
      unfold PySem.passOn
      refine wpAny_bind (wpAny_field he hd h1 ?_)
      rw [if_neg (show ¬ ((Value.ref T == Value.none) = true) from by simp)]
      have fin : wpAny (model X.prog X.w) X.A (setFlight (.ref a) X.env.frame) (fun _ s4 => wpAny (model X.prog X.w) X.A (throw (.ref a) : Sem Flow) (SP X pins D) X.xe s4) X.xe { s' with heap := h3 } := by
        rw [hf]
        refine HandSPX.setFlight_upZ fl3 fun h4 hh4 up4 => wpAny_throw (tk _ _ ?_)
        exact ⟨a, B, sI, pins, σ', H', cls, d, rfl, J, nb, (up.trans up3).trans up4, .inr (.inr (by rw [hs]; exact hh4)), na, os, ag, hno rfl⟩
      first
        | exact wpAny_bind (wpAny_pure (wpAny_bind fin))
        | exact wpAny_bind fin
  · cases f with
    | next =>
      obtain ⟨σ', H', J', q⟩ := hsp
      exact wpAny_execs_nil ⟨σ', H', J'.ofTry ok, q⟩
    | brk =>
      obtain ⟨σ', H', J', q⟩ := hsp
      exact ⟨σ', H', J'.ofTry ok, q⟩
    | cont =>
      obtain ⟨σ', H', J', q⟩ := hsp
      exact ⟨σ', H', J'.ofTry ok, q⟩
    | ret u =>
      obtain ⟨v, σ', H', J', r, q⟩ := hsp
      exact ⟨v, σ', H', J'.ofTry ok, r, q⟩
end Y
namespace PySem.W
open PySem PySem.Spec PySem.Calls PyProof.Rows
section
variable {prog : Program} {w : World} {A : Around} {E : Value → Shared → Prop} {s : Shared} {K : Frag} {x D : Addr} {ox : Obj} {od : Option Obj}
theorem y_data {C : Addr} {name : Str} {a g : Value} (hc : (clsIn K C).isSome = true) (ha : findIn K (.ref C) name = some (some a)) (hg : specialIn K a "__get__" = some (some g)) (ht : takesIn K a = some true) : findObj K C od name = some (.bind g a) := by
  obtain ⟨cd, e⟩ := Option.isSome_iff_exists.mp hc
  unfold findObj
  rw [e, Option.bind_some, ha, Option.bind_some]
  simp [hg, ht]
/-- an exception's __class__, with or without a dict -/
theorem y_class {Q : Option Value → Shared → Prop} (c : L2.ExcC K D) (X : K.In s.heap) (I : InstAt s.heap x ox D od) (h : Q (some (.ref D)) { s with toks := s.toks + 1 }) : wpAny (model prog w) A (getAttr? (.ref x) "__class__") Q E s := by
  have found : findObj K D od "__class__" = some (.bind (.builtin "getset_descriptor.__get__") (.builtin "object.__class__")) := y_data (by obtain ⟨cd, hc, _⟩ := any_some c.hd; rw [hc]; rfl) c.ha c.hn c.ht
  obtain ⟨hp, g, d, t, os⟩ := s
  have t0 := I.type (M := model prog w)
  have t1 := looks_findIn (M := model prog w) X c.hg
  have t2 := looks_findIn (M := model prog w) X c.hk
  have t3 := looks_find (M := model prog w) X I found
  have below : Looks (model prog w) hp (isInstance (.ref x) (.type "BaseException")) true := t0.andThen (looks_subIn X c.hs)
  have n0 : (false && onTheHeap (Value.builtin "BaseException.__getattribute__")) = false := rfl
  have n2 : (Value.builtin "BaseException.__getattribute__" == Value.builtin "object.__getattribute__") = false := by decide +kernel
  have n1 : (onTheHeap (Value.ref D) && Value.builtin "BaseException.__getattribute__" == Value.builtin "object.__getattribute__") = false := by rw [n2]; rfl
  unfold getAttr? getAttrBy? getAttrBy
  refine wpAny_bind (wpAny_mkText (wpAny_bind (wpAny_attempt (wpAny_holding (wpAny_bind (t0.at (wpAny_bind (t1.at ?_))))))))
  show wpAny _ _ (if (onTheHeap (Value.ref D) && Value.builtin "BaseException.__getattribute__" == Value.builtin "object.__getattribute__") = true then _ else _) _ _ _
  rw [n1, if_neg Bool.false_ne_true]
  unfold getAttrByItsOwn hookBefore
  refine wpAny_bind ?_
  rw [if_pos (show onTheHeap (Value.ref D) = true from rfl)]
  refine t2.at ?_
  refine wpAny_bind (wpAny_attempt (wpAny_holding ?_))
  unfold callGetattribute
  rw [n0, if_neg Bool.false_ne_true]
  unfold boundAndCalled
  rw [PySem.F.excAttr_ValueError.ga.bind (.ref x)]
  refine wpAny_bind (wpAny_pure ?_)
  show wpAny _ _ (call (.builtin "BaseException.__getattribute__") [.ref x, .str "__class__" t]) _ _ _
  refine wpAny_call (codeAny_call_builtin PySem.F.excAttr_ValueError.ga.plain PySem.F.entry_bexc_ga ?_)
  refine @check_slot (model prog w) _ _ ⟨hp, g, d, t + 1, os⟩ "BaseException.__getattribute__" "BaseException" "__getattribute__" (.ref x) [.str "__class__" t] [] _ (by decide +kernel) (by decide +kernel) below (PySem.F.args_bexc_ga (.ref x) (.str "__class__" t)) ?_
  unfold Builtin.«object.__getattribute__»
  refine wpAny_bind (wpAny_of_eq (a := ((Value.ref x : Value), [Value.str "__class__" t])) (by first | rfl | (simp only [slotArgs]; rfl)) ?_)
  refine wpAny_bind (wpAny_pure (wpAny_bind (t0.at (wpAny_bind (t3.at ?_)))))
  show wpAny _ _ (holding [Value.builtin "object.__class__"] (call (.builtin "getset_descriptor.__get__") [.builtin "object.__class__", .ref x, .ref D]) >>= ret) _ _ _
  refine wpAny_bind (wpAny_holding (wpAny_call (class_get (s := ⟨hp, g, d, t + 1, os⟩) (ox := ox) (od := od) X I c.hm ?_)))
  refine wpAny_pure ?_
  show wpAny _ _ (handedOut (.ref D)) _ _ _
  rw [handedOut_of (v := .ref D) rfl]
  first
    | exact wpAny_pure (wpAny_pure h)
    | exact wpAny_pure h
    | exact wpAny_pure (wpAny_bind (wpAny_pure (wpAny_pure h)))
theorem y_kit (c : L2.ExcC K D) : KitX K (.ref x) (.ref D) (fun h => InstAt h x ox D od) where
  ty := fun _ _ _ I => I.type
  it := fun _ _ X _ => by
    obtain ⟨cdD, hcD, _⟩ := any_some c.hd
    unfold clsIn at hcD
    split at hcD
    · rename_i c' d' cd' sl' ho
      intro A' Q' E' s' k q
      unfold isType loadHead
      exact wpAny_bind (wpAny_loadPart (k _ _ (X _ _ ho)) (wpAny_pure q))
    · cases hcD
  ne := fun h tp dd its n sl X htp => by
    obtain ⟨cdD, hcD, _⟩ := any_some c.hd
    refine Bool.eq_false_iff.mpr fun q => ?_
    have e : D = tp := Value.ref.inj (beq_iff_eq.mp q)
    subst e
    unfold clsIn at hcD
    split at hcD
    · rename_i c' d' cd' sl' ho
      have z := (X _ _ ho).symm.trans htp
      cases z
    · cases hcD
  ca := fun X I k => y_class c X I k
end
end PySem.W
namespace Y
open PySem PySem.Spec PyProof.Rows L2
/-- a caught exception, and its dict if it has one -/
def XAt (H : Hp) (a D : Addr) : Prop := ∃ d, H a = some (xo a (.ref D) d) ∧ (d = none ∨ ∃ dd fs, d = some dd ∧ H dd = some (.xd fs))
theorem XAt.inst {X : Cx} {pins : List (Addr × Obj)} {σ : L2.St} {H : Hp} {s : Shared} {a D : Addr} (I : Inv X pins σ H s) (x : XAt H a D) : ∃ ox od, PySem.W.InstAt s.heap a ox D od := by
  obtain ⟨d, e, hd⟩ := x
  obtain ⟨oe, vs, h1, ⟨h2, h3⟩, h4⟩ := xo_at I.hok e
  rcases hd with rfl | ⟨dd, fs, rfl, e2⟩
  · obtain ⟨oc, od, oda, osl⟩ := oe
    dsimp only at h2 h3 h4
    subst h2 h3 h4
    exact ⟨_, none, h1, rfl, rfl, trivial⟩
  · have hx : ObjOk X.prog X.w H s.heap dd (.xd fs) := I.hok dd _ e2
    obtain ⟨mA, hns, hr⟩ := hx
    obtain ⟨od, ho, hl⟩ := lookIn_ns hns
    exact ⟨oe, some od, h1, h2, by unfold PySem.W.notCls; rw [h4] <;> rfl, by rw [h3]; exact ho⟩
def rIsX (K : PySem.W.Frag) : List V → Hp → VK → Prop := fun xs H Q => ∃ (a D : Addr) (c : V) (u : Value) (b : Bool), xs = [.ref a, c] ∧ XAt H a D ∧ ExcC K D ∧ ClsV c u ∧ PySem.W.kitOne K (.ref D) u = some b ∧ Q (.bl b) H
theorem call_isX {X : Cx} : CallR X (.builtin "isinstance") (rIsX X.K) := by
  intro pins s σ H xs us Q I r h
  obtain ⟨a, D, c, u, b, rfl, hx, C, k, e, q⟩ := h
  obtain ⟨u1, u2, rfl, r1, r2⟩ := vals2 r
  have e2 := k.eq r2
  subst e2
  cases (show u1 = Value.ref a from r1)
  obtain ⟨ox, od, J⟩ := hx.inst I
  exact PySem.W.kia_one (PySem.W.y_kit (ox := ox) (od := od) C) I.kIn J e (fun z => nomatch z) fun tk => ⟨.bl b, H, I.tok tk, rfl, q⟩
/-- e.f of a caught exception -/
theorem getX {X : Cx} {pins : List (Addr × Obj)} {σ : L2.St} {H : Hp} {s : Shared} {A : Around} {E : Value → Shared → Prop} {a D dd : Addr} {fs : List (Str × V)} {f : Str} {v : V} {b : Bool} {Q : Value → Shared → Prop} (T : XfC X.K D) (hno : PySem.W.findIn X.K (.ref D) f = some none)
    (I : Inv X pins σ H s) (e : H a = some (xo a (.ref D) (some dd))) (e2 : H dd = some (.xd fs)) (l : fs.lookup f = some v) (h : ∀ u s', Inv X pins σ H s' → RelV v u → Q u s') : wpAny (model X.prog X.w) A (getAttr (.ref a) f b) Q E s := by
  obtain ⟨oe, vs, h1, ⟨h2, h3⟩, h4⟩ := xo_at I.hok e
  have hx : ObjOk X.prog X.w H s.heap dd (.xd fs) := I.hok dd _ e2
  obtain ⟨mA, hns, hr⟩ := hx
  obtain ⟨od, ho, hl⟩ := lookIn_ns hns
  obtain ⟨u, hu, ru⟩ := RelO.some_of (v := v) (o := mA f) (by rw [← l]; exact hr f)
  have J : PySem.W.InstAt s.heap a oe D (some od) := ⟨h1, h2, by unfold PySem.W.notCls; rw [h4] <;> rfl, by rw [h3]; exact ho⟩
  exact HandSPX.exc_get I.kIn J T.ga T.gg T.exC (PySem.W.findObj_own T.hdC hno rfl (by rw [hl, hu])) (handed_of ru) (h u _ (I.tok _) ru)
end Y
namespace Y
open PySem PySem.Spec PyProof.Rows L2

/-! ### slices -/
section
variable {E : XKs} {X : Cx} {a b d : Expr} {Ta Tb Td : TD} {pos p2 : Pos}
def tDo (K : PySem.W.Frag) (E : XKs) (T : DEnv → Hd → (Option Int → Hd → Prop) → QX → Prop) : TO := fun σ H Q => ∃ ρ h Qd Ed, RelE K H h ρ σ ∧ HRel K H h ∧ T ρ h Qd Ed ∧ (∀ o h1 H1, Frm h H h1 H1 → HRel K H1 h1 → Qd o h1 → Q o H1) ∧ ClX K h H Ed (E σ)
theorem _root_.L2.PO.weak {X : Cx} {e : Option Expr} {t t' : TO} (p : PO X e t) (w : ∀ σ H Q, t' σ H Q → t σ H Q) : PO X e t' := ⟨fun pins s σ H Q I h => p.run pins s σ H Q I (w _ _ _ h)⟩
theorem do_noPart : PO X none (tDo X.K E fun _ h Q _ => Q none h) := po_none.weak fun σ H Q ⟨ρ, h, Qd, Ed, re, hr, t, c, cx⟩ => c none h H Frm.refl hr t
theorem do_part (ha : PE X a (tD X.K E Ta)) : PO X (some a) (tDo X.K E fun ρ h Q Xd => Ta ρ h (fun d h1 => match d with | .int i => Q (some i) h1 | _ => False) Xd) :=
  (po_some ha).weak fun σ H Q ⟨ρ, h, Qd, Ed, re, hr, t, c, cx⟩ => ⟨ρ, h, _, Ed, re, hr, t, fun d1 h1 v1 H1 f1 hr1 r1 q1 => by
    cases d1 with
    | int i => cases r1; exact ⟨i, rfl, c _ _ _ f1 hr1 q1⟩
    | _ => exact q1.elim, cx⟩
theorem d_slc {lo hi : Option Expr} {Tl Tu : DEnv → Hd → (Option Int → Hd → Prop) → QX → Prop} (ha : PE X a (tD X.K E Ta)) (hl : PO X lo (tDo X.K E Tl)) (hu : PO X hi (tDo X.K E Tu)) :
    PE X (.Subscript a (.Slice lo hi none p2) pos) (tD X.K E fun ρ h Q Xd => Ta ρ h (fun x h1 => Tl ρ h1 (fun l h2 => Tu ρ h2 (fun u h3 => slR x l u h3 Q) Xd) Xd) Xd) :=
  (pe_slice do_sl ha hl hu).weak fun σ H Q ⟨ρ, h, Qd, Ed, re, hr, t, c, cx⟩ => by
    refine ⟨ρ, h, _, Ed, re, hr, t, fun d1 h1 v1 H1 f1 hr1 r1 q1 => ?_, cx⟩
    refine ⟨ρ, h1, _, Ed, re.frm f1, hr1, q1, fun l h2 H2 f2 hr2 q2 => ?_, cx.frm f1⟩
    refine ⟨ρ, h2, _, Ed, re.frm (f1.trans f2), hr2, q2, fun u h3 H3 f3 hr3 q3 => ?_, cx.frm (f1.trans f2)⟩
    exact ⟨h3, d1, Qd, hr3, (r1.frm f2).frm f3, q3, c.frm (f1.trans (f2.trans f3))⟩
end
/-- all items backwards -/
theorem adjust_back (n : Nat) : Builtin.Slice.sliceAdjust none none (-1) (n : Int) = ((n : Int) - 1, -1) := rfl
theorem places_back (n : Nat) : Builtin.Slice.slicePlaces ((n : Int) - 1) (-1) (-1) = n := by
  unfold Builtin.Slice.slicePlaces
  rw [if_neg (by decide)]
  split
  · have e : ((n : Int) - 1 - -1 - 1) / (- -1) + 1 = (n : Int) := by
      have : (- -1 : Int) = 1 := rfl
      rw [this, Int.ediv_one]; omega
    rw [e]; rfl
  · omega
theorem fm_congr {α β : Type} {f g : α → Option β} : ∀ {l : List α}, (∀ x ∈ l, f x = g x) → l.filterMap f = l.filterMap g
  | [], _ => rfl
  | a :: l, h => by
    have e := fm_congr (l := l) fun x hx => h x (List.mem_cons_of_mem _ hx)
    rw [List.filterMap_cons, List.filterMap_cons, h a List.mem_cons_self, e]
theorem back_list {α : Type} : ∀ l : List α, ((List.range l.length).filterMap fun (m : Nat) => l[l.length - 1 - m]?) = l.reverse
  | [] => rfl
  | a :: l => by
    rw [List.reverse_cons, ← back_list l, List.length_cons, List.range_succ, List.filterMap_append]
    congr 1
    · refine fm_congr fun m hm => ?_
      have hm := List.mem_range.mp hm
      have e : l.length + 1 - 1 - m = (l.length - 1 - m) + 1 := by omega
      rw [e, List.getElem?_cons_succ]
    · simp
theorem pick_back (xs : Array Value) : ((List.range xs.size).filterMap fun (m : Nat) => xs[(((xs.size : Int) - 1) + (m : Int) * (-1)).toNat]?).toArray = xs.toList.reverse.toArray := by
  rw [← back_list xs.toList]
  congr 1
  rw [Array.length_toList]
  refine fm_congr fun m hm => ?_
  have hm := List.mem_range.mp hm
  have e : (((xs.size : Int) - 1) + (m : Int) * (-1)).toNat = xs.size - 1 - m := by omega
  rw [e, Array.getElem?_toList]
/-- a tuple's items backwards: a new tuple -/
theorem item_back {prog : Program} {w : World} {A : Around} {E : Value → Shared → Prop} {s : Shared} {t sl : Addr} {items : Array Value} {vl vu vs : Value} {Q : Value → Shared → Prop} (ht : IsTup s.heap t items) (hs : s.heap.IsSliceOf sl vl vu vs) (pl : IsPart vl none) (pu : IsPart vu none) (ps : IsPart vs (some (-1)))
    (hz : items.size ≤ sizeLine) (h : Q (.ref s.heap.objs.size) { s with heap := s.heap.push { cls := .type "tuple", data := .seq items.toList.reverse.toArray } }) : wpAny (model prog w) A (getItem (.ref t) (.ref sl)) Q E s := by
  obtain ⟨os, hos, hcs, hds⟩ := id hs
  have hT : s.TypeIs (.ref sl) "slice" := ⟨os, hos, hcs⟩
  have fit : sizeOk (.seq items.toList.reverse.toArray) := by
    show items.toList.reverse.toArray.size ≤ sizeLine
    simpa using hz
  unfold getItem
  try with_reducible refine wpAny_holding ?_
  first | refine wpAny_bind (wpAny_pure ?_) | skip
  refine wpAny_bind (wpAny_sequenceKey ht.typeIs (by decide) ?_)
  refine wpAny_bind (wpAny_callSpecial?_slot (name := Str.ofString "__getitem__") ht.typeIs PyProof.Rows.slot_tuple_getitem (wpAny_call_entry PyProof.Rows.slot_tuple_getitem ht.typeIs PySem.F.entry_tuple_getitem ?_ (PySem.F.args_tuple_getitem_2 _ _)))
  show wpAny _ _ (Builtin.Tuple.tupleItemsOf (.ref t) >>= _) _ _ s
  refine wpAny_bind (tupleItemsOf_ ht ?_)
  refine wpAny_bind (wpAny_typeOf hT ?_)
  rw [if_pos (by decide)]
  refine wpAny_bind ?_
  unfold Builtin.Slice.sliceApplied Builtin.Slice.sliceFields
  refine wpAny_bind (wpAny_bind (wpAny_field hos hds (x := vl) rfl (wpAny_bind (wpAny_field hos hds (x := vu) rfl (wpAny_bind (wpAny_field hos hds (x := vs) rfl (wpAny_pure ?_)))))))
  refine wpAny_bind (HT.slicePart_ ps ?_)
  show wpAny _ _ (if ((-1 : Int) == 0) = true then _ else _) _ _ s
  rw [if_neg (by decide)]
  refine wpAny_bind (HT.slicePart_ pl (wpAny_bind (HT.slicePart_ pu (wpAny_bind (wpAny_pure ?_)))))
  show wpAny _ _ (match Builtin.Slice.sliceAdjust none none (-1) (items.size : Int) with | (lo, hi) => pure (lo, (-1 : Int), Builtin.Slice.slicePlaces lo hi (-1))) _ _ s
  rw [adjust_back]
  show wpAny _ _ (pure ((items.size : Int) - 1, (-1 : Int), Builtin.Slice.slicePlaces ((items.size : Int) - 1) (-1) (-1))) _ _ s
  rw [places_back]
  refine wpAny_pure ?_
  show wpAny _ _ (if (((items.size : Int) - 1) == 0 && (-1 : Int) == 1 && items.size == items.size) = true then _ else _) _ _ s
  rw [if_neg (by rw [show ((-1 : Int) == 1) = false from rfl]; simp), pick_back]
  first
    | exact wpAny_bind (m := Builtin.Tuple.tupleExact _) (wpAny_newObj_type (wpAny_pure ⟨_, rfl, wpAny_pure h⟩) fit)
    | exact wpAny_bind (m := Builtin.Tuple.tupleExact _) (wpAny_newObj_type (wpAny_bind (wpAny_pure (wpAny_pure ⟨_, rfl, wpAny_pure h⟩))) fit)
    | exact wpAny_bind (wpAny_bind (m := Builtin.Tuple.tupleExact _) (wpAny_newObj_type (wpAny_pure (wpAny_pure ⟨_, rfl, wpAny_pure h⟩)) fit))
    | exact wpAny_bind (wpAny_bind (m := Builtin.Tuple.tupleExact _) (wpAny_newObj_type (wpAny_pure ⟨_, rfl, wpAny_pure h⟩) fit))
section
variable {E : XKs} {X : Cx} {a : Expr} {Ta : TD} {pos : Pos}
theorem d_rev {k : Nat} {p1 p2 p3 : Pos} (ha : PE X a (tD X.K E Ta)) : PE X (.Subscript a (.Slice none none (some (.UnaryOp .USub (.Constant (.int 1) k p1) p2)) p3) pos) (tD X.K E (bind1 Ta revR)) := by
  refine ⟨fun pins s σ H Q I hx => ?_⟩
  obtain ⟨ρ, h, Qd, Ed, re, hr, t, c, cx⟩ := hx
  have hv : tD X.K E Ta σ H fun v H1 => ∃ h1 d1, HRel X.K H1 h1 ∧ Rep X.K H1 h1 d1 v ∧ revR d1 h1 Qd ∧ Cl X.K h1 H1 Qd Q := ⟨ρ, h, _, Ed, re, hr, t, fun d1 h1 v1 H1 f1 hr1 r1 q1 => ⟨h1, d1, hr1, r1, q1, c.frm f1⟩, cx⟩
  refine Subscript_ (thn (ha.run pins s σ H _ I hv) fun v s1 ⟨x, H1, I1, r1, q1⟩ => ?_)
  obtain ⟨h1, d1, hr1, rd, q, c1⟩ := q1
  have hst : PO X (some (.UnaryOp .USub (.Constant (.int 1) k p1) p2)) (tPart (tUn (rU fun i => .int (-i)) (tC (.int 1)))) := po_some (pe_un un_neg pe_int)
  refine wpAny_Slice (thn (po_none.run pins s1 σ H1 (fun o H2 => o = none ∧ H2 = H1) I1 ⟨rfl, rfl⟩) fun vl s2 ⟨l, H2, I2, pl, el, e2⟩ => ?_)
  subst el e2
  refine thn (po_none.run pins s2 σ H2 (fun o H3 => o = none ∧ H3 = H2) I2 ⟨rfl, rfl⟩) fun vu s3 ⟨u, H3, I3, pu, eu, e3⟩ => ?_
  subst eu e3
  refine thn (hst.run pins s3 σ H3 (fun o H4 => o = some (-1) ∧ H4 = H3) I3 ⟨1, rfl, -1, rfl, rfl, rfl⟩) fun vs s4 ⟨o, H4, I4, ps, eo, e4⟩ => ?_
  subst eo e4
  have I5 : Inv X pins σ H4 { s4 with heap := s4.heap.push { cls := .type "slice", data := .fields #[vl, vu, vs] } } := I4.kept (t' := s4.toks) fun b ob q => Heap.get?_push_of_some _ q
  have nw : H4 (s4.heap.objs.size + 1) = none := I4.hok.fresh (Nat.le_succ _)
  have sz5 : (s4.heap.push { cls := .type "slice", data := .fields #[vl, vu, vs] }).objs.size = s4.heap.objs.size + 1 := Heap.size_push _ _
  have lists : ∀ ds, seqL h1 d1 = some ds → Qd (.lst ds.reverse) h1 → wpAny (model X.prog X.w) X.A (subscriptTail a (.Slice none none (some (.UnaryOp .USub (.Constant (.int 1) k p1) p2)) p3) v (.ref s4.heap.objs.size)) (EP X pins σ Q) X.xe { s4 with heap := s4.heap.push { cls := .type "slice", data := .fields #[vl, vu, vs] } } := fun ds e q => by
    obtain ⟨b, us, rfl, hb, rb⟩ := seqL_ok hr1 rd e
    cases r1
    obtain ⟨its, rv, ht, hz⟩ := I5.list (.inl (.inl hb))
    have hlen := rv.length
    refine tail_any (ops := [.ref b, .ref s4.heap.objs.size]) ht.isList.typeIs (PySem.slot_list_getitem.lookup) ?_ (by with_unfolding_all rfl)
    refine wpAny_getItem_list_slice ht.isList (Heap.IsSliceOf.new _ vl vu vs) pl pu ps (by decide) ?_ (by rw [List.size_toArray]; omega)
    rw [PySem.W.krv_pick]
    have nw2 := I5.hok.fresh (Nat.le_refl _)
    refine ⟨.ref _, _, I5.laid (t' := s4.toks) (o := .lst us.reverse) (fun b ob q => Heap.get?_push_of_some _ q) (Nat.le_refl _) ?_, rfl, c1.fresh hr1 nw2 (Rep.newL hr1 rb.reverse nw2) q⟩
    exact ⟨by rw [List.length_reverse]; exact hz, _, 0, rv.reverse, Heap.get?_push_size _ rfl⟩
  show wpAny (model X.prog X.w) X.A (subscriptTail a (.Slice none none (some (.UnaryOp .USub (.Constant (.int 1) k p1) p2)) p3) v (.ref s4.heap.objs.size)) (EP X pins σ Q) X.xe { s4 with heap := s4.heap.push { cls := .type "slice", data := .fields #[vl, vu, vs] } }
  have other : (match seqL h1 d1 with | some ds => Qd (.lst ds.reverse) h1 | none => False) → wpAny (model X.prog X.w) X.A (subscriptTail a (.Slice none none (some (.UnaryOp .USub (.Constant (.int 1) k p1) p2)) p3) v (.ref s4.heap.objs.size)) (EP X pins σ Q) X.xe { s4 with heap := s4.heap.push { cls := .type "slice", data := .fields #[vl, vu, vs] } } := fun q => by
    cases e : seqL h1 d1 with
    | none => rw [e] at q; exact q.elim
    | some ds => rw [e] at q; exact lists ds e q
  cases d1 with
  | tup ds =>
    obtain ⟨b, us, rfl, hb, rb⟩ := rd.sqT
    cases r1
    obtain ⟨its, rv, ht, hz⟩ := I5.tuple hb
    have hlen := rv.length
    refine tail_any (ops := [.ref b, .ref s4.heap.objs.size]) ht.typeIs (PyProof.Rows.slot_tuple_getitem.lookup) ?_ (by with_unfolding_all rfl)
    refine item_back ht (Heap.IsSliceOf.new _ vl vu vs) pl pu ps (by rw [List.size_toArray]; omega) ?_
    have nw2 := I5.hok.fresh (Nat.le_refl _)
    refine ⟨.ref _, _, I5.laid (t' := s4.toks) (o := .tup us.reverse) (fun b ob q => Heap.get?_push_of_some _ q) (Nat.le_refl _) ?_, rfl, c1.fresh hr1 nw2 (Rep.newT hr1 rb.reverse nw2) q⟩
    exact ⟨by rw [List.length_reverse]; exact hz, its.reverse, rv.reverse, ⟨_, Heap.get?_push_size _ rfl, rfl, 0, rfl⟩⟩
  | _ => exact other q
end
end Y
namespace Y
open PySem PySem.Spec PyProof.Rows L2

/-! ### calls of built-ins, of methods, isinstance -/
section
variable {C : Ctx} {G : Prg} {k : Nat} {E : XKs} {X : Cx} {a b o e : Expr} {es : List Expr} {Ta To : TD} {Ts Tk : TDs} {x : Str} {p pos apos : Pos}
theorem d_bif (ok : COk C G k E X) {bf : Bif} (hb : mBlt C bf.nm = true) (ha : PA X (e :: es) (tDs X.K E Ts)) (hs : noStar (e :: es) = true) : PE X (.Call (.Name bf.nm p) (e :: es) [] pos) (tD X.K E (bindS Ts (bifR bf))) := by
  obtain ⟨h1, h2⟩ := and2 hb
  obtain ⟨h2, h3⟩ := and2 h2
  have hm := ok.free _ (of_decide_eq_true h1)
  have hg := gl_of ok h2
  obtain ⟨n1, n2⟩ := noStar_cons hs
  have hc := ok.calm
  have hr := bif_ok hc bf
  have hv := bif_boot bf
  have fin : (∃ id, bf.val = .builtin id) ∨ ∃ T, bf.val = .type T := by cases bf <;> first | exact .inl ⟨_, rfl⟩ | exact .inr ⟨_, rfl⟩
  rcases fin with ⟨id, e1⟩ | ⟨T, e1⟩
  · rw [e1] at hr hv
    exact (pe_callB hr hg hm hv ha (okName.nm h3) (okName.dbg h3) (n2 _) (noStar_any n1)).weak cb_weak
  · rw [e1] at hr hv
    exact (pe_callTy hr hg hm hv ha (okName.nm h3) (okName.dbg h3) (n2 _) (noStar_any n1)).weak cb_weak
def Ty.nm : Ty → Str
  | .int => "int" | .bool => "bool" | .str => "str" | .tuple => "tuple" | .list => "list"
def Ty.ty : Ty → String
  | .int => "int" | .bool => "bool" | .str => "str" | .tuple => "tuple" | .list => "list"
def dTy : D → Option String
  | .non => some "NoneType"
  | .bl _ => some "bool"
  | .int _ => some "int"
  | .str _ => some "str"
  | .tup _ => some "tuple"
  | .lst _ => some "list"
  | .dct _ _ => some "dict"
  | _ => none
theorem dTy_ok {H : Hp} {h : Hd} {d : D} {v : V} {n : String} (r : Rep X.K H h d v) (t : dTy d = some n) : TyX X.K H v (.type n) := by
  cases r with
  | non => cases t; exact .base .non
  | bl b => cases t; exact .base (.bl b)
  | int b => cases t; exact .base (.int b)
  | str b => cases t; exact .base (.str b)
  | tup e n r => cases t; exact .base (.tup e)
  | tupK k r =>
    cases t
    obtain ⟨o, its, n, h1, h2, _⟩ := k
    exact .kTuple h1 h2
  | lst e n r => cases t; exact .base (.lst e)
  | dct e n l r => cases t; exact .base (.dK e)
  | _ => cases t
theorem tyIs_kit {t : Ty} {d : D} {bb : Bool} (e : tyIs t d = some bb) : ∃ n, dTy d = some n ∧ kitB n t.ty = some bb := by
  cases d <;> first | (cases e; done) | skip
  all_goals (refine ⟨_, rfl, ?_⟩; cases t <;> (cases e; decide +kernel))
theorem ty_boot (t : Ty) : bootBuiltins t.nm = some (.type t.ty) := by cases t <;> decide +kernel
theorem d_isi (ok : COk C G k E X) {t : Ty} {q1 : Pos} (hb : mBlt C "isinstance" = true) (ht : mBlt C t.nm = true) (ha : PE X a (tD X.K E Ta)) (hs : noStar [a] = true) :
    PE X (.Call (.Name "isinstance" p) [a, .Name t.nm q1] [] pos) (tD X.K E (bind1 Ta (isiR t))) := by
  obtain ⟨h1, h2⟩ := and2 hb
  obtain ⟨h2, h3⟩ := and2 h2
  obtain ⟨g1, g2⟩ := and2 ht
  obtain ⟨g2, g3⟩ := and2 g2
  have hm := ok.free _ (of_decide_eq_true h1)
  have hg := gl_of ok h2
  have hmt := ok.free _ (of_decide_eq_true g1)
  have hgt := gl_of ok g2
  obtain ⟨n1, n2⟩ := noStar_cons hs
  have n3 : starEach [a, .Name t.nm q1] X.env = (false, eval a X.env) :: starEach [.Name t.nm q1] X.env := by
    cases a <;> first | rfl | (cases hs; done)
  have pt : PE X (.Name t.nm q1) (tC (.ty t.ty)) := pe_bltn hgt hmt (ty_boot t) rfl (okName.nm g3) (okName.dbg g3)
  refine (pe_callB call_isi hg hm (by decide +kernel) (pa_cons ha (pa_cons pt pa_nil rfl) n3) (okName.nm h3) (okName.dbg h3) n3 rfl).weak fun σ H Q ⟨ρ, h, Qd, Ed, re, hr, t1, c, cx⟩ => ?_
  refine ⟨ρ, h, _, Ed, re, hr, t1, fun d1 h1 v1 H1 f1 hr1 r1 q1 => ?_, cx⟩
  have q1 : isiR t d1 h1 Qd := q1
  unfold isiR at q1
  split at q1
  · rename_i bb e
    obtain ⟨n, e1, e2⟩ := tyIs_kit e
    exact ⟨v1, .ty t.ty, .type n, .type t.ty, bb, rfl, .ty _, dTy_ok r1 e1, kit_ty e2, (c.frm f1).here hr1 (.bl _) q1⟩
  · exact q1.elim
/-- what stands ahead of a dot -/
def baseOk : Expr → Bool
  | .Call (.Name _ _) [] [] _ => false
  | _ => true
theorem baseOk_eq {o : Expr} {m : Str} {env : PySem.Env} (h : baseOk o = true) : attributeBase o m env (eval o env) = eval o env := by
  unfold attributeBase
  split
  · cases h
  · rfl
def lineOk (ap cp : Pos) : Bool := ap.endLine == cp.line
theorem few_ok {cpos : Pos} {env : PySem.Env} : ∀ {es : List Expr}, noStar es = true → (backTo cpos (starEach es env)).all (fun x => !x.1) = true
  | [], _ => rfl
  | e :: r, h => by
    obtain ⟨h1, h2⟩ := noStar_cons h
    rw [h2]
    show (!false && (backTo cpos (starEach r env)).all (fun x => !x.1)) = true
    rw [few_ok h1]; rfl
theorem d_mth {m : Mth} (ho : PE X o (tD X.K E To)) (ha : PA X (e :: es) (tDs X.K E Ts)) (hs : noStar (e :: es) = true) (hbase : baseOk o = true) (hl : (e :: es).length < 20) (hline : lineOk apos pos = true) :
    PE X (.Call (.Attribute o m.nm apos) (e :: es) [] pos) (tD X.K E fun ρ h Q Xd => To ρ h (fun x h1 => isTyM m x h1 ∧ Ts ρ h1 (fun ds h2 => mthR m x ds h2 Q) Xd) Xd) := by
  obtain ⟨n1, n2⟩ := noStar_cons hs
  refine (pe_bm (mth_pa m) (mth_slot m) (mth_type m) (mth_ok m) ho ha (baseOk_eq hbase) ?_ hline (n2 _) (noStar_any n1)).weak fun σ H Q ⟨ρ, h, Qd, Ed, re, hr, t, c, cx⟩ => ?_
  · rw [few_ok hs]
    show (true && true && decide (_ < 30)) = true
    rw [Bool.true_and, Bool.true_and]
    refine decide_eq_true ?_
    show (e :: es).length + 0 + 0 < 30
    omega
  · refine ⟨ρ, h, _, Ed, re, hr, t, fun d1 h1 v1 H1 f1 hr1 r1 q1 => ?_, cx⟩
    refine ⟨isTyM_ok hr1 r1 q1.1, ρ, h1, _, Ed, re.frm f1, hr1, q1.2, fun d2 h2 v2 H2 f2 hr2 r2 q2 => ?_, cx.frm f1⟩
    exact ⟨h2, d1, d2, Qd, hr2, r1.frm f2, r2, q2, c.frm (f1.trans f2)⟩

/-! ### calls of the text's own defs -/
def kwN : List Keyword → List (Option Str)
  | [] => []
  | ⟨n, _, _⟩ :: r => n :: kwN r
def kwE : List Keyword → List Expr
  | [] => []
  | ⟨_, e, _⟩ :: r => e :: kwE r
theorem kw_all {env : PySem.Env} {pos : Pos} : ∀ {kws : List Keyword} {ks : List Str}, kwN kws = ks.map some → (backToKw pos (keywordEach kws env)).all (·.1.isSome) = true ∧ (backToKw pos (keywordEach kws env)).filterMap (·.1) = ks ∧ (backToKw pos (keywordEach kws env)).any (·.1.isNone) = false
  | [], ks, h => by
    cases ks with
    | nil => exact ⟨rfl, rfl, rfl⟩
    | cons a r => cases h
  | ⟨n, e, q⟩ :: r, ks, h => by
    cases ks with
    | nil => cases h
    | cons a ks =>
      have h : n :: kwN r = some a :: ks.map some := h
      injection h with h1 h2
      subst h1
      obtain ⟨e1, e2, e3⟩ := kw_all (pos := pos) (env := env) h2
      refine ⟨?_, ?_, ?_⟩
      · show (true && (backToKw pos (keywordEach r env)).all (·.1.isSome)) = true
        rw [e1]; rfl
      · show a :: (backToKw pos (keywordEach r env)).filterMap (·.1) = a :: ks
        rw [e2]
      · show (false || (backToKw pos (keywordEach r env)).any (·.1.isNone)) = false
        rw [e3]; rfl
theorem PK.weak {kws : List Keyword} {t t' : TA} (h : PK X kws t) (w : ∀ σ H Q, t' σ H Q → t σ H Q) : PK X kws t' := ⟨fun pos pins s σ H Q I q => h.run pos pins s σ H Q I (w _ _ _ q)⟩
theorem dk_nil : PK X [] (tDs X.K E fun _ h Q _ => Q [] h) := PK.weak pk_nil fun σ H Q ⟨ρ, h, Qd, Ed, re, hr, t, c, cx⟩ => c [] h [] H Frm.refl hr .nil t
theorem dk_cons {nm : Option Str} {kp : Pos} {kws : List Keyword} (ha : PE X a (tD X.K E Ta)) (hr : PK X kws (tDs X.K E Ts)) : PK X (⟨nm, a, kp⟩ :: kws) (tDs X.K E fun ρ h Q Xd => Ta ρ h (fun x h1 => Ts ρ h1 (fun xs h2 => Q (x :: xs) h2) Xd) Xd) :=
  PK.weak (pk_cons ha hr) fun σ H Q ⟨ρ, h, Qd, Ed, re, hr, t, c, cx⟩ => by
    refine ⟨ρ, h, _, Ed, re, hr, t, fun d1 h1 v1 H1 f1 hr1 r1 q1 => ?_, cx⟩
    refine ⟨ρ, h1, _, Ed, re.frm f1, hr1, q1, fun d2 h2 v2 H2 f2 hr2 r2 q2 => ?_, cx.frm f1⟩
    exact c _ _ _ _ (f1.trans f2) hr2 (.cons (r1.frm f2) r2) q2
/-- the call itself, from values -/
theorem run_call (ok : COk C G k E X) {pins : List (Addr × Obj)} {σ : L2.St} {H : Hp} {s : Shared} {Q : VK} {us ws : List Value} {vs zs : List V} {ds es : List D} {h : Hd} {f : Nat} {i : FnI} {sh : Shape} {Qd : QD} {Ed : QX}
    {av : Addr} {fd : FuncData} {kf : Nat} (hk : kf + 3 ≤ k) (F : FnOk X.prog X.w X.K X.mg X.base (L2.CX X.prog X.w) kf av fd i.ps (toSp X.K i.ps.length (G.Φ f))) (sb : KSh X.K fd i.ps sh)
    (l1 : us.length = sh.n) (l2 : ws.length = sh.ks.length) (I : Inv X pins σ H s) (r : Vals vs us) (rz : Vals zs ws) (hr : HRel X.K H h) (rd : Reps X.K H h ds vs) (re : Reps X.K H h es zs)
    (q : match pickD sh.pl ds es with | some xs => G.Φ f xs h Qd Ed | none => False) (c : Cl X.K h H Qd Q) (cx : ClX X.K h H Ed (E σ)) :
    wpAny (model X.prog X.w) X.A (call (.ref av) us (sh.ks.zip ws)) (EP X pins σ Q) X.xe s := by
  cases e : pickD sh.pl ds es with
  | none => rw [e] at q; exact q.elim
  | some xs =>
    rw [e] at q
    obtain ⟨zv, e1, rp⟩ := pick_rep rd re e
    obtain ⟨zv', zl, e2, rv, ln, hb⟩ := sb s us ws vs zs I.kIn l1 l2 r rz
    rw [e1] at e2; cases e2
    have lv : zv.length = i.ps.length := by rw [← ln]; exact rv.length
    have hsp : toSp X.K i.ps.length (G.Φ f) zv H Q (E σ) := ⟨xs, h, Qd, Ed, lv, rp, hr, q, c, cx⟩
    refine wpAny_call (codeAny_mono (F.run X.A X.stack s H ⟨us, sh.ks.zip ws⟩ zl zv Q (E σ) (ok.room.mono (by omega)) I.env0 hb rv hsp) fun r s' hq => ?_)
    cases r with
    | error e => exact ok.px σ pins H s e s' I hq
    | ok fl =>
      cases fl with
      | ret u => exact I.after hq
      | next => exact False.elim hq
      | brk => exact False.elim hq
      | cont => exact False.elim hq
theorem kw_len : ∀ {kws : List Keyword} {ks : List Str}, kwN kws = ks.map some → kws.length = ks.length
  | [], [], _ => rfl
  | [], _ :: _, h => by cases h
  | ⟨_, _, _⟩ :: _, [], h => by cases h
  | ⟨n, e, q⟩ :: r, b :: ks, h => by
    have h : n :: kwN r = some b :: ks.map some := h
    injection h with h1 h2
    exact congrArg (· + 1) (kw_len h2)
def callT (G : Prg) (f si : Nat) (Ts Tk : TDs) : TD := fun ρ h Q Xd => Ts ρ h (fun ds h1 => Tk ρ h1 (fun zs h2 => ds.length = (G.sh f si).n ∧ zs.length = (G.sh f si).ks.length ∧ match pickD (G.sh f si).pl ds zs with
      | some xs => G.Φ f xs h2 Q Xd
      | none => False) Xd) Xd
/-- the keywords' part and the call, from the arguments' values on -/
theorem call_rest (ok : COk C G k E X) {f si : Nat} {i : FnI} {sh : Shape} {kws : List Keyword} (eG : G.sh f si = sh) {av : Addr} {fd : FuncData} {kf : Nat} (hkf : kf + 3 ≤ k) (F : FnOk X.prog X.w X.K X.mg X.base (L2.CX X.prog X.w) kf av fd i.ps (toSp X.K i.ps.length (G.Φ f))) (sb : KSh X.K fd i.ps sh)
    (hk : kwN kws = sh.ks.map some) (hkw : PK X kws (tDs X.K E Tk))
    {pins : List (Addr × Obj)} {σ : L2.St} {H H1 : Hp} {h h1 : Hd} {s1 : Shared} {Q : VK} {Qd : QD} {Ed : QX} {ρ : DEnv} {us : List Value} {vs : List V} {ds : List D} (re : RelE X.K H h ρ σ) (c : Cl X.K h H Qd Q) (cx : ClX X.K h H Ed (E σ))
    (I1 : Inv X pins σ H1 s1) (r1 : Vals vs us) (f1 : Frm h H h1 H1) (hr1 : HRel X.K H1 h1) (rd : Reps X.K H1 h1 ds vs)
    (q1 : Tk ρ h1 (fun zs h2 => ds.length = (G.sh f si).n ∧ zs.length = (G.sh f si).ks.length ∧ match pickD (G.sh f si).pl ds zs with
        | some xs => G.Φ f xs h2 Qd Ed
        | none => False) Ed) :
    wpAny (model X.prog X.w) X.A (evalAll ((backToKw pos (keywordEach kws X.env)).map (·.2))) (fun ks s₂ => X.K.In s₂.heap ∧ wpAny (model X.prog X.w) X.A (call (.ref av) ([] ++ us) (((backToKw pos (keywordEach kws X.env)).filterMap (·.1)).zip ks)) (EP X pins σ Q) X.xe s₂) X.xe s1 := by
  obtain ⟨k1, k2, k3⟩ := kw_all (pos := pos) (env := X.env) hk
  refine thn (hkw.run pos pins s1 σ H1 (fun zs H2 => ∃ h2 es2, Frm h1 H1 h2 H2 ∧ HRel X.K H2 h2 ∧ Reps X.K H2 h2 es2 zs ∧ ds.length = (G.sh f si).n ∧ es2.length = (G.sh f si).ks.length ∧ match pickD (G.sh f si).pl ds es2 with
      | some xs => G.Φ f xs h2 Qd Ed
      | none => False) I1 ⟨ρ, h1, _, Ed, re.frm f1, hr1, q1, fun d2 h2 v2 H2 f2 hr2 r2 q2 => ⟨h2, d2, f2, hr2, r2, q2⟩, cx.frm f1⟩) fun ws s2 ⟨zs, H2, I2, rz, h2, es2, f2, hr2, r2, ld, l2, q2⟩ => ⟨I2.kIn, ?_⟩
  rw [k2, List.nil_append]
  rw [eG] at q2 ld l2
  refine run_call ok hkf F sb ?_ ?_ I2 r1 rz hr2 (rd.frm f2) r2 q2 (c.frm (f1.trans f2)) (cx.frm (f1.trans f2))
  · rw [← r1.length, ← rd.length, ld]
  · rw [← rz.length, ← r2.length, l2]
theorem d_call (ok : COk C G k E X) {f si : Nat} {i : FnI} {sh : Shape} {kws : List Keyword} (hf : C.fns.lookup f = some i) (hsh : i.shapes[si]? = some sh) (ho : i.own = none) (hx : i.name = x) (hg : glB C.sc x = true) (hn : okName x = true)
    (hk : kwN kws = sh.ks.map some) (ha : PA X (e :: es) (tDs X.K E Ts)) (hkw : PK X kws (tDs X.K E Tk)) (hs : noStar (e :: es) = true) :
    PE X (.Call (.Name x p) (e :: es) kws pos) (tD X.K E (callT G f si Ts Tk)) := by
  subst hx
  obtain ⟨⟨av, fd, kf, hkf, F, hrf, hsb⟩, hG⟩ := (ok.fns f i hf).imp FnGood.ok id
  unfold ReachF at hrf
  rw [ho] at hrf
  obtain ⟨hm, hkp⟩ := hrf
  have eG := hG si sh hsh
  have sb := hsb sh (List.mem_of_getElem? hsh)
  obtain ⟨k1, k2, k3⟩ := kw_all (pos := pos) (env := X.env) hk
  obtain ⟨n1, n2⟩ := noStar_cons hs
  refine ⟨fun pins s σ H Q I hx => ?_⟩
  obtain ⟨ρ, h, Qd, Ed, re, hr, t, c, cx⟩ := hx
  refine wpAny_Call_Name_kw (ld_glob I (gl_of ok hg) hm ?_ (okName.dbg hn))
  refine PySem.W.callWith_KW (h₀ := X.base) I.ok.mod.kin hkp k1 ?_ (by rw [noStar_any hs, k3]; rfl) (n2 _)
  refine thn (ha.run pos pins s σ H (fun vs H1 => ∃ h1 ds, Frm h H h1 H1 ∧ HRel X.K H1 h1 ∧ Reps X.K H1 h1 ds vs ∧ Tk ρ h1 (fun zs h2 => ds.length = (G.sh f si).n ∧ zs.length = (G.sh f si).ks.length ∧ match pickD (G.sh f si).pl ds zs with
        | some xs => G.Φ f xs h2 Qd Ed
        | none => False) Ed) I ⟨ρ, h, _, Ed, re, hr, t, fun d1 h1 v1 H1 f1 hr1 r1 q1 => ⟨h1, d1, f1, hr1, r1, q1⟩, cx⟩) fun us s1 ⟨vs, H1, I1, r1, h1, ds, f1, hr1, rd, q1⟩ => ?_
  exact call_rest ok eG hkf F sb hk hkw re c cx I1 r1 f1 hr1 rd q1
theorem d_call0 (ok : COk C G k E X) {f si : Nat} {i : FnI} {sh : Shape} {kws : List Keyword} (hf : C.fns.lookup f = some i) (hsh : i.shapes[si]? = some sh) (ho : i.own = none) (hx : i.name = x) (hg : glB C.sc x = true) (hn : okName x = true)
    (hk : kwN kws = sh.ks.map some) (hkw : PK X kws (tDs X.K E Tk)) :
    PE X (.Call (.Name x p) [] kws pos) (tD X.K E (callT G f si (fun _ h Q _ => Q [] h) Tk)) := by
  subst hx
  obtain ⟨⟨av, fd, kf, hkf, F, hrf, hsb⟩, hG⟩ := (ok.fns f i hf).imp FnGood.ok id
  unfold ReachF at hrf
  rw [ho] at hrf
  obtain ⟨hm, hkp⟩ := hrf
  have eG := hG si sh hsh
  have sb := hsb sh (List.mem_of_getElem? hsh)
  obtain ⟨k1, k2, k3⟩ := kw_all (pos := pos) (env := X.env) hk
  refine ⟨fun pins s σ H Q I hx => ?_⟩
  obtain ⟨ρ, h, Qd, Ed, re, hr, t, c, cx⟩ := hx
  refine wpAny_Call_Name_kw (ld_glob I (gl_of ok hg) hm ?_ (okName.dbg hn))
  refine PySem.W.callWith_KW0 (h₀ := X.base) I.ok.mod.kin hkp k1 ?_ (by show ((false : Bool) || _) = false; rw [k3]; rfl)
  exact call_rest ok eG hkf F sb hk hkw re c cx I .nil Frm.refl hr .nil t
end
end Y
namespace Y
open PySem PySem.Spec PyProof.Rows L2
/-! ### enumerate, over whatever is walked -/
theorem meets_enumerate1 {v : Value} {o : Obj} {H : Heap → Prop} (B : Begins v o H) :
    Meets (Builtin.«enumerate.__new__» ⟨[.type "enumerate", v], []⟩) (fun _ R s => H s.heap ∧
      R (.ok (.ret (.ref (s.heap.push o).objs.size))) { s with heap := (s.heap.push o).push { cls := .type "enumerate", data := .fields #[.none, .bool false, .ref s.heap.objs.size, rawInt 0, .none, .none] } }) :=
  .of_wp fun prog w A R s h => by
    obtain ⟨hp, g, d, tk, os⟩ := s; obtain ⟨h1, h⟩ := h
    have hsub := sub_enumerate
    have q1 : ∀ {A' : Around} {E : Value → Shared → Prop} {Q : Value → Shared → Prop}, Q (.ref hp.objs.size) ⟨hp.push o, g, d, tk, os⟩ → wpAny (model prog w) A' (pyIter v) Q E ⟨hp, g, d, tk, os⟩ :=
      fun q => B.iter prog w _ _ ⟨hp, g, d, tk, os⟩ _ h1 q
    wp_walk using q1
    refine wpAny_stack_any fun st => wpAny_pure ?_
    split
    · rename_i c _ _ _ _ _
      cases (c == Value.type "enumerate")
      · wp_walk using q1
        exact ⟨_, rfl, h⟩
      · wp_walk using q1
        exact ⟨_, rfl, h⟩
    · wp_walk using q1
      exact ⟨_, rfl, h⟩
section
variable {prog : Program} {w : World} {A : Around} {E : Value → Shared → Prop} {s : Shared}
theorem enum_begins1 {v : Value} {o : Obj} {H : Heap → Prop} {Q : Value → Shared → Prop} (B : Begins v o H) (h1 : H s.heap)
    (h : ∀ h', IsEnum h' (s.heap.objs.size + 1) s.heap.objs.size 0 .none → h'.get? s.heap.objs.size = some o → h'.objs.size = s.heap.objs.size + 2 →
      (∀ b o, s.heap.get? b = some o → h'.get? b = some o) → Q (.ref (s.heap.objs.size + 1)) { s with heap := h' }) :
    wpAny (model prog w) A (call (.type "enumerate") [v]) Q E s := by
  refine callType_new F.called_enumerate (by decide) (F.typeCall_enumerate_1 _) (F.newCall_enumerate_1 _) (fun obj => F.args_object_init_2 obj _) F.entry_enumerate_new
    (meets_enumerate1 B) ⟨h1, ?_⟩
  have hz : (s.heap.push o).objs.size = s.heap.objs.size + 1 := Heap.size_push ..
  show _ ∧ _
  rw [hz]
  have he : IsEnum ((s.heap.push o).push { cls := .type "enumerate", data := .fields #[.none, .bool false, .ref s.heap.objs.size, rawInt 0, .none, .none] }) (s.heap.objs.size + 1) s.heap.objs.size 0 .none := by
    have := Heap.get?_push_size (s.heap.push o) (o := { cls := .type "enumerate", data := .fields #[.none, .bool false, .ref s.heap.objs.size, rawInt 0, .none, .none] }) rfl
    rw [hz] at this; exact this
  refine ⟨⟨_, he, rfl⟩, h _ he (Heap.get?_push_of_some _ (Heap.get?_push_size _ B.free)) (by rw [Heap.size_push, hz]) fun b o x => Heap.get?_push_of_some _ (Heap.get?_push_of_some _ x)⟩
end
/-- what stands at each turn is known by is: the walk of an enumerate over it -/
structure Sou (P : Program) (w : World) (K : PySem.W.Frag) (it : Addr) (has : Hp → List V → Prop) (tn : Nat → Heap → Prop) : Prop where
  ob : ∀ i h, tn i h → ∃ o, h.get? it = some o ∧ ∀ v, o.data ≠ .cell v
  keep : ∀ i h h', tn i h → (∀ o, h.get? it = some o → h'.get? it = some o) → tn i h'
  dr : ∀ (X : Cx), X.prog = P → X.w = w → X.K = K → X.calm = true → ∀ (pins : List (Addr × Obj)) (s : Shared) (σ : L2.St) (H : Hp) (i : Nat) (xs : List V), Inv X pins σ H s → H it = none → tn i s.heap → has H xs →
    ∃ (fp : List Addr) (St : Nat → Heap → Prop), Draws P w X.A.in1 it fp xs.length (fun i v => ∃ x, xs[i]? = some x ∧ RelV x v) St ∧ St i s.heap ∧ (∀ j h, St j h → tn j h) ∧ ∀ b ∈ fp, b = it ∨ ∃ o, s.heap.get? b = some o ∧ o.cls ≠ .type "enumerate"
  inj : ∀ (X : Cx), X.prog = P → X.w = w → X.K = K → ∀ (pins : List (Addr × Obj)) (s : Shared) (σ : L2.St) (H : Hp) (xs ys : List V), Inv X pins σ H s → has H xs → has H ys → xs = ys
def IteG (has : Hp → List V → Prop) : L2.It :=
  ⟨fun i H => ∃ (xs : List V) (x : V), has H xs ∧ xs[i]? = some x, fun i H v H' => ∃ T x, v = .ref T ∧ H T = none ∧ H' = upd H T (.tup [.int (i : Nat), x]) ∧ ∀ xs, has H xs → xs[i]? = some x, fun i H => ∃ xs : List V, has H xs ∧ xs.length = i⟩
theorem turn_enumG {P : Program} {w : World} {K : PySem.W.Frag} {elts : List Expr} {kk : Nat} {tpos : Pos} {has : Hp → List V → Prop} {tn : Nat → Heap → Prop} (e it : Addr) (S : Sou P w K it has tn) :
    Turn P w K (.Tuple elts kk tpos) (IteG has) [e, it] e (fun i h => (∃ old, IsEnum h e it ((i : Nat) : Int) old) ∧ tn i h ∧ e ≠ it) where
  mem := by simp
  obj := fun i h st b hb => by
    obtain ⟨⟨old, he⟩, hi, _⟩ := st
    have e' : b = e ∨ b = it := by simpa using hb
    rcases e' with z | z
    · rw [z]; exact ⟨_, he, fun v q => nomatch q⟩
    · rw [z]; exact S.ob _ _ hi
  keep := fun i h h' st k => let ⟨⟨old, he⟩, hi, hne⟩ := st; ⟨⟨old, k e (by simp) _ he⟩, S.keep _ _ _ hi fun o q => k it (by simp) o q, hne⟩
  item := by
    intro X hP hw hK hc i pins s σ H E I hf st hg
    obtain ⟨⟨old, he⟩, hit, hne⟩ := st
    obtain ⟨xs, x, hq, hx⟩ := hg
    obtain ⟨fp, St, D, hst, hback, hfp⟩ := S.dr X hP hw hK hc pins s σ H i xs I (hf it (by simp)).1 hit hq
    have hi : i < xs.length := by
      rw [List.getElem?_eq_some_iff] at hx
      exact hx.1
    have hel : e < s.heap.objs.size := Heap.lt_size he
    have hil : it < s.heap.objs.size := by obtain ⟨_, q⟩ := D.live _ _ hst; exact Heap.lt_size q
    have hef : e ∉ fp := fun z => by
      rcases hfp e z with q | ⟨o, q1, q2⟩
      · exact hne q
      · rw [he] at q1; cases q1; exact q2 rfl
    have hxs := fun ys hy => S.inj X hP hw hK pins s σ H ys xs I hy hq
    subst hP hw hK
    refine wpAny_pyNext_enum_itemD D he hst hi hne hef fun v h' tk hv ho hst' hT hsz hk => ?_
    obtain ⟨x', e1, ru⟩ := hv
    rw [hx] at e1; cases e1
    refine ⟨_, rfl, wpAny_letOwnedTupleGo_enum (s := { s with heap := h', toks := tk + 1 }) ho fun h'' he' sb => ?_⟩
    have hT2 : h''.get? s.heap.objs.size = some { cls := .type "tuple", data := .seq #[.int i tk, v] } := (sb.2 _ (Nat.ne_of_gt hel)).trans hT
    have new : ObjOk X.prog X.w (upd H s.heap.objs.size (.tup [.int (i : Nat), x])) h'' s.heap.objs.size (.tup [.int (i : Nat), x]) :=
      ⟨by show 2 ≤ sizeLine; decide, [.int i tk, v], .cons ⟨_, rfl⟩ (.cons ru .nil), ⟨_, hT2, rfl, _, rfl⟩⟩
    have I1 : Inv X pins σ (upd H s.heap.objs.size (.tup [.int (i : Nat), x])) { s with heap := h'', toks := tk + 1 } :=
      I.turnedNew (ch := [e, it]) (fun b ob hb q => (sb.2 b (fun z => hb (by simp [z]))).trans (hk b ob (fun z => hb (by simp [z])) (fun z => hb (by simp [z])) q)) hf (Nat.le_refl _) new
    refine ⟨.ref s.heap.objs.size, _, I1, rfl, ⟨_, x, rfl, I.hok.fresh (Nat.le_refl _), rfl, fun ys hy => by rw [hxs ys hy]; exact hx⟩, ⟨⟨v, ?_⟩, S.keep _ _ _ (hback _ _ hst') fun o q => (sb.2 it (Ne.symm hne)).trans q, hne⟩, fun b hb => ?_⟩
    · have e1 : ((i + 1 : Nat) : Int) = (i : Int) + 1 := by omega
      rw [e1]; exact he'
    · have hb' : b < s.heap.objs.size := by
        have e' : b = e ∨ b = it := by simpa using hb
        rcases e' with z | z
        · rw [z]; exact hel
        · rw [z]; exact hil
      rw [upd_ne (Nat.ne_of_lt hb')]
      exact (hf b hb).1
  done := by
    intro X hP hw hK hc i pins s σ H E I hf st hg
    obtain ⟨⟨old, he⟩, hit, hne⟩ := st
    obtain ⟨xs, hq, hx⟩ := hg
    obtain ⟨f0, f1, f2, f3, f4, f5⟩ := hf it (by simp)
    subst hx
    obtain ⟨fp, St, D, hst, hback, hfp⟩ := S.dr X hP hw hK hc pins s σ H _ xs I f0 hit hq
    subst hP hw hK
    exact wpAny_pyNext_enum_endD D he hst fun h' eb => ⟨rfl, I.turned (t' := s.toks) (fun b o hb q => eb b o hb q) f0 f1 f3 f4 f5⟩
  self := fun A i s Q E st h => let ⟨⟨_, he⟩, _⟩ := st; wpAny_pyIter_enum he h
theorem in1_hd {A : Around} (h : A.handled = none) : A.in1.handled = none := h
theorem draws_list' {prog : Program} {w : World} {A : Around} {it : Addr} {fp : List Addr} {n : Nat} {P P' : Nat → Value → Prop} {St : Nat → Heap → Prop} (D : Draws prog w A it fp n P St) (h : ∀ i v, P i v → P' i v) : Draws prog w A it fp n P' St where
  live := D.live
  frame := D.frame
  item := fun i s Q E hi st hQ => D.item i s Q E hi st fun x h' tk p => hQ x h' tk (h i x p)
  done := D.done
theorem vals_get2 {vs : List V} {us : List Value} (r : Vals vs us) {i : Nat} {u : Value} (e : us.toArray[i]? = some u) : ∃ v, vs[i]? = some v ∧ RelV v u := by
  have e2 : us[i]? = some u := by simpa using e
  clear e
  induction r generalizing i with
  | nil => simp at e2
  | cons r rr ih =>
    cases i with
    | zero => simp at e2; subst e2; exact ⟨_, rfl, r⟩
    | succ i =>
      obtain ⟨v, h1, h2⟩ := ih (i := i) (by simpa using e2)
      exact ⟨v, by simpa using h1, h2⟩
theorem sou_list {P : Program} {w : World} {K : PySem.W.Frag} (a it : Addr) : Sou P w K it (fun H xs => SqL K H a xs) (fun i h => h.IsListIter it a i) where
  ob := fun i h st => by obtain ⟨o, ho, hc, hd⟩ := st; exact ⟨o, ho, fun v q => by rw [hd] at q; cases q⟩
  keep := fun i h h' st k => st.at k
  dr := fun X hP hw hK hc pins s σ H i xs I n st hq => by
    subst hP hw hK
    obtain ⟨its, rv, p, hz⟩ := I.list hq
    have hne : a ≠ it := fun z => by
      subst z
      obtain ⟨o, q1, q2, _⟩ := p.isList
      obtain ⟨o', q3, q4, _⟩ := st
      rw [q1] at q3; cases q3
      exact absurd (q2.symm.trans q4) (by decide)
    have D := Draws.list (prog := X.prog) (w := X.w) (in1_hd (I.ok.hd hc)) it a hne its.toArray
    have hl : its.toArray.size = xs.length := by simpa using rv.length.symm
    rw [hl] at D
    refine ⟨_, _, draws_list' D fun i v e => vals_get2 rv e, ⟨st, p.isList⟩, fun j h z => z.1, fun b hb => ?_⟩
    have e' : b = it ∨ b = a := by simpa using hb
    rcases e' with z | z
    · exact .inl z
    · subst z
      obtain ⟨o, q1, q2, _⟩ := p.isList
      exact .inr ⟨o, q1, by rw [q2]; decide⟩
  inj := fun X hP hw hK pins s σ H xs ys I h1 h2 => by subst hK; exact I.list_inj h1 h2
theorem sou_tup {P : Program} {w : World} {K : PySem.W.Frag} (a it : Addr) : Sou P w K it (fun H xs => SqT K H a xs) (fun i h => h.IsTupleIter it a i) where
  ob := fun i h st => by obtain ⟨o, ho, hc, hd⟩ := st; exact ⟨o, ho, fun v q => by rw [hd] at q; cases q⟩
  keep := fun i h h' st k => st.at k
  dr := fun X hP hw hK hc pins s σ H i xs I n st hq => by
    subst hP hw hK
    obtain ⟨its, rv, p, hz⟩ := I.tuple hq
    have p : s.heap.IsTuple a its.toArray := p
    have hne : a ≠ it := fun z => by
      subst z
      obtain ⟨o, q1, q2, _⟩ := p
      obtain ⟨o', q3, q4, _⟩ := st
      rw [q1] at q3; cases q3
      exact absurd (q2.symm.trans q4) (by decide)
    have D := Draws.tuple (prog := X.prog) (w := X.w) (in1_hd (I.ok.hd hc)) it a hne its.toArray
    have hl : its.toArray.size = xs.length := by simpa using rv.length.symm
    rw [hl] at D
    refine ⟨_, _, draws_list' D fun i v e => vals_get2 rv e, ⟨st, p⟩, fun j h z => z.1, fun b hb => ?_⟩
    have e' : b = it ∨ b = a := by simpa using hb
    rcases e' with z | z
    · exact .inl z
    · subst z
      obtain ⟨o, q1, q2, _⟩ := p
      exact .inr ⟨o, q1, by rw [q2]; decide⟩
  inj := fun X hP hw hK pins s σ H xs ys I h1 h2 => by subst hK; exact I.tuple_inj h1 h2
def chsV (x : Str) : List V := x.cps.toList.map fun c => .str ⟨#[c]⟩
theorem sou_str {P : Program} {w : World} {K : PySem.W.Frag} (x : Str) (t : Tok) (it : Addr) : Sou P w K it (fun _ xs => xs = chsV x) (fun i h => h.IsStrIter it (strIterType x) x t i) where
  ob := fun i h st => by obtain ⟨o, ho, hc, hd⟩ := st; exact ⟨o, ho, fun v q => by rw [hd] at q; cases q⟩
  keep := fun i h h' st k => let ⟨o, ho, r⟩ := st; ⟨o, k o ho, r⟩
  dr := fun X hP hw hK hc pins s σ H i xs I n st hq => by
    subst hP hw hK hq
    have D := Draws.text (prog := X.prog) (w := X.w) (in1_hd (I.ok.hd hc)) it x t
    have hl : x.cps.size = (chsV x).length := by unfold chsV; simp
    rw [hl] at D
    refine ⟨_, _, draws_list' D fun i v ⟨c, u, e1, e2⟩ => ⟨.str ⟨#[c]⟩, by unfold chsV; simp [e1], u, e2⟩, st, fun j h z => z, fun b hb => .inl (by simpa using hb)⟩
  inj := fun X hP hw hK pins s σ H xs ys I h1 h2 => by rw [h1, h2]
end Y
namespace Y
open PySem PySem.Spec PyProof.Rows L2

/-! ### what is walked -/
def Wk (K : PySem.W.Frag) (J : L2.It) (h0 : Hd) (H0 : Hp) (ds : List D) : Prop := ∀ h H, Frm h0 H0 h H → HRel K H h → ∀ i,
  (∀ d, ds[i]? = some d → J.go i H ∧ ∀ x H', J.yld i H x H' → Frm h H h H' ∧ HRel K H' h ∧ Rep K H' h d x) ∧ (i = ds.length → J.stop i H)
def iD (K : PySem.W.Frag) (E : XKs) (W : TDs) : TI := fun σ H R => ∃ ρ h Qd Ed, RelE K H h ρ σ ∧ HRel K H h ∧ W ρ h Qd Ed ∧
  (∀ ds h1 H1 J, Frm h H h1 H1 → HRel K H1 h1 → Wk K J h1 H1 ds → Qd ds h1 → R J H1) ∧ ClX K h H Ed (E σ)
theorem PI.weak {X : Cx} {tg it : Expr} {w w' : TI} (p : PI X tg it w) (h : ∀ σ H R, w' σ H R → w σ H R) : PI X tg it w' := ⟨fun pins s σ H R I q => p.run pins s σ H R I (h _ _ _ q)⟩
section
variable {K : PySem.W.Frag} {h : Hd} {H : Hp} {ds es : List D} {vs us : List V} {a b : Addr}
theorem atT (e : SqT K H a vs) (n : h a = none) (f : Frm h H h2 H2) : SqT K H2 a vs := by
  rcases e with (e | ⟨o, e⟩) | e
  · exact .inl (.inl (f.keep _ _ e n).1)
  · exact .inl (.inr ⟨o, (f.keep _ _ e n).1⟩)
  · exact .inr e
/-- a list that stays, a tuple -/
def StL (K : PySem.W.Frag) (h : Hd) (H : Hp) (a : Addr) (vs : List V) : Prop := ∀ h2 H2, Frm h H h2 H2 → SqL K H2 a vs ∧ ∀ xs, SqL K H2 a xs → xs = vs
def StT (K : PySem.W.Frag) (h : Hd) (H : Hp) (a : Addr) (vs : List V) : Prop := ∀ h2 H2, Frm h H h2 H2 → SqT K H2 a vs
end
section
variable {X : Cx} {pins : List (Addr × Obj)} {σ : L2.St} {s : Shared} {h : Hd} {H : Hp} {ds es : List D} {vs us : List V} {a b : Addr}
/-- data that stay: what stands there -/
theorem seqF_ok {d : D} {v : V} {ds : List D} (r : Rep X.K H h d v) (e : seqF d = some ds) : ∃ a vs, v = .ref a ∧ Reps X.K H h ds vs ∧ ((∀ h2 H2, Frm h H h2 H2 → SqL X.K H2 a vs) ∨ ∀ h2 H2, Frm h H h2 H2 → SqT X.K H2 a vs) := by
  cases r with
  | tup e1 n r =>
    cases e
    exact ⟨_, _, rfl, r, .inr fun h2 H2 f => .inl (.inl (f.keep _ _ e1 n).1)⟩
  | tupK k r =>
    cases e
    exact ⟨_, _, rfl, r, .inr fun h2 H2 f => .inr k⟩
  | lst e1 n r =>
    cases e
    exact ⟨_, _, rfl, r, .inl fun h2 H2 f => .inl (.inl (f.keep _ _ e1 n).1)⟩
  | scr e1 =>
    cases e
    exact ⟨_, _, rfl, Reps.ints _, .inl fun h2 H2 f => (e1.frm f).sqL⟩
  | _ => cases e
/-- a walk over a list: what the items are at each turn is read off the list as it stands -/
theorem wk_list (hr : HRel X.K H h) (r : Reps X.K H h ds vs) (st : ∀ h2 H2, Frm h H h2 H2 → SqL X.K H2 a vs) : Wk X.K (Itl X.K a) h H ds := fun h2 H2 f hr2 i => by
  refine ⟨fun d e => ?_, fun hl => ⟨vs, st h2 H2 f, by rw [← r.length]; exact Nat.le_of_eq hl.symm⟩⟩
  obtain ⟨v, e1, r1⟩ := r.get e
  refine ⟨⟨vs, v, st h2 H2 f, e1⟩, fun x H' ⟨e2, hx⟩ => ?_⟩
  subst e2
  have q := hx vs (st h2 _ f)
  rw [e1] at q; cases q
  exact ⟨Frm.refl, hr2, r1.frm f⟩
theorem wk_tup (hr : HRel X.K H h) (r : Reps X.K H h ds vs) (st : ∀ h2 H2, Frm h H h2 H2 → SqT X.K H2 a vs) : Wk X.K (Itt X.K a) h H ds := fun h2 H2 f hr2 i => by
  refine ⟨fun d e => ?_, fun hl => ⟨vs, st h2 H2 f, by rw [← r.length]; exact Nat.le_of_eq hl.symm⟩⟩
  obtain ⟨v, e1, r1⟩ := r.get e
  refine ⟨⟨vs, v, st h2 H2 f, e1⟩, fun x H' ⟨e2, hx⟩ => ?_⟩
  subst e2
  have q := hx vs (st h2 _ f)
  rw [e1] at q; cases q
  exact ⟨Frm.refl, hr2, r1.frm f⟩
end
section
variable {E : XKs} {X : Cx} {a b d : Expr} {tg : Expr} {Ta Tb : TD} {Ts : TDs} {pos p : Pos}
theorem chs_len {x : Str} : (chs x).length = x.cps.size := by unfold chs; simp
theorem chs_get {x : Str} {i : Nat} {d : D} (e : (chs x)[i]? = some d) : ∃ c, x.cps[i]? = some c ∧ d = .str ⟨#[c]⟩ := by
  unfold chs at e
  rw [List.getElem?_map] at e
  cases q : x.cps.toList[i]? with
  | none => rw [q] at e; cases e
  | some c => rw [q] at e; cases e; exact ⟨c, by simpa using q, rfl⟩
theorem wk_str {K : PySem.W.Frag} {h : Hd} {H : Hp} {x : Str} : Wk K (Its x) h H (chs x) := fun h2 H2 f hr2 i => by
  refine ⟨fun d e => ?_, fun hl => by rw [chs_len] at hl; exact Nat.le_of_eq hl.symm⟩
  obtain ⟨c, e1, rfl⟩ := chs_get e
  refine ⟨by rw [Array.getElem?_eq_some_iff] at e1; exact e1.1, fun y H' ⟨e2, c', e3, e4⟩ => ?_⟩
  subst e2 e4
  rw [e1] at e3; cases e3
  exact ⟨Frm.refl, hr2, .str _⟩
theorem di_seq (ha : PE X a (tD X.K E Ta)) : PI X tg a (iD X.K E fun ρ h Q Xd => Ta ρ h (fun x h1 => match seqW x with
    | some ds => Q ds h1
    | none => False) Xd) := by
  refine ⟨fun pins s σ H R I hx => ?_⟩
  obtain ⟨ρ, h, Qd, Ed, re, hr, t, c, cx⟩ := hx
  refine thn (ha.run pins s σ H (fun v H1 => ∃ h1 d1, Frm h H h1 H1 ∧ HRel X.K H1 h1 ∧ Rep X.K H1 h1 d1 v ∧ match seqW d1 with
    | some ds => Qd ds h1
    | none => False) I ⟨ρ, h, _, Ed, re, hr, t, fun d1 h1 v1 H1 f1 hr1 r1 q1 => ⟨h1, d1, f1, hr1, r1, q1⟩, cx⟩) fun v s1 ⟨x, H1, I1, rv, h1, d1, f1, hr1, rd, q1⟩ => ?_
  have I2 := fun (ob : Obj) => I1.kept (t' := s1.toks) (h' := s1.heap.push ob) fun b o e => Heap.get?_push_of_some _ e
  have fp : ∀ b ∈ [s1.heap.objs.size], FpOk X pins H1 b := fun b hb => by
    have e : b = s1.heap.objs.size := by simpa using hb
    subst e
    exact I1.fpOk (Nat.le_refl _) (I1.hok.fresh (Nat.le_refl _))
  have other : (∀ z, d1 ≠ .str z) → wpAny (model X.prog X.w) X.A (pyIter v) (PIE X pins σ tg R) X.xe s1 := fun n => by
    cases e : seqF d1 with
    | none =>
      have q1 : match seqW d1 with | some ds => Qd ds h1 | none => False := q1
      cases d1 <;> first | exact absurd rfl (n _) | (cases e; done) | exact q1.elim
    | some ds =>
      have q1 : Qd ds h1 := by
        cases d1 <;> first | exact absurd rfl (n _) | (cases e; done) | (cases e; exact q1)
      obtain ⟨a, vs, rfl, rs, st⟩ := seqF_ok rd e
      cases rv
      rcases st with st | st
      · obtain ⟨its, ri, pl, hz⟩ := I1.list (st h1 H1 Frm.refl)
        refine wpAny_pyIter_list pl.isList ?_
        exact ⟨s1.heap.objs.size, [s1.heap.objs.size], _, _, H1, rfl, I2 _, turn_list a _, ⟨_, Heap.get?_push_size _ rfl, rfl, rfl⟩, fp, c ds h1 H1 _ f1 hr1 (wk_list hr1 rs st) q1⟩
      · obtain ⟨its, ri, pl, hz⟩ := I1.tuple (st h1 H1 Frm.refl)
        refine wpAny_pyIter_tuple (show s1.heap.IsTuple a its.toArray from pl) ?_
        exact ⟨s1.heap.objs.size, [s1.heap.objs.size], _, _, H1, rfl, I2 _, turn_tuple a _, ⟨_, Heap.get?_push_size _ rfl, rfl, rfl⟩, fp, c ds h1 H1 _ f1 hr1 (wk_tup hr1 rs st) q1⟩
  cases d1 with
  | str z =>
    cases rd
    obtain ⟨t, rfl⟩ := rv
    cases ha : z.cps.all (· < 128)
    · exact wpAny_pyIter_wide ha ⟨s1.heap.objs.size, [s1.heap.objs.size], _, _, H1, rfl, I2 _, turn_str _ z t "str_iterator" (.inr rfl), ⟨_, Heap.get?_push_size _ rfl, rfl, rfl⟩, fp, c _ h1 H1 _ f1 hr1 wk_str q1⟩
    · exact wpAny_pyIter_ascii ha ⟨s1.heap.objs.size, [s1.heap.objs.size], _, _, H1, rfl, I2 _, turn_str _ z t "str_ascii_iterator" (.inl rfl), ⟨_, Heap.get?_push_size _ rfl, rfl, rfl⟩, fp, c _ h1 H1 _ f1 hr1 wk_str q1⟩
  | _ => exact other fun z q => by cases q
theorem range_get {lo c : Int} {n i : Nat} {d : D} (e : (rangeD lo n c)[i]? = some d) : i < n ∧ d = .int (lo + (i : Int) * c) := by
  unfold rangeD at e
  rw [List.getElem?_map] at e
  by_cases hi : i < n
  · rw [List.getElem?_range hi] at e
    cases e
    exact ⟨hi, rfl⟩
  · rw [List.getElem?_eq_none (by simp; omega)] at e
    cases e
theorem range_len {lo c : Int} {n : Nat} : (rangeD lo n c).length = n := by unfold rangeD; simp
theorem wk_range {K : PySem.W.Frag} {h : Hd} {H : Hp} {lo : Int} {n : Nat} : Wk K (Itr lo n) h H (rangeD lo n 1) := fun h2 H2 f hr2 i => by
  refine ⟨fun d e => ?_, fun hl => by rw [range_len] at hl; exact Nat.le_of_eq hl.symm⟩
  obtain ⟨h1, rfl⟩ := range_get e
  refine ⟨h1, fun x H' ⟨e1, e2⟩ => ?_⟩
  subst e1 e2
  rw [Int.mul_one]
  exact ⟨Frm.refl, hr2, .int _⟩
theorem wk_rangeC {K : PySem.W.Frag} {h : Hd} {H : Hp} {lo c : Int} {n : Nat} : Wk K (Itc lo c n) h H (rangeD lo n c) := fun h2 H2 f hr2 i => by
  refine ⟨fun d e => ?_, fun hl => by rw [range_len] at hl; exact Nat.le_of_eq hl.symm⟩
  obtain ⟨h1, rfl⟩ := range_get e
  refine ⟨h1, fun x H' ⟨e1, e2⟩ => ?_⟩
  subst e1 e2
  exact ⟨Frm.refl, hr2, .int _⟩
def noStar1 (a : Expr) : Bool := noStar [a]
theorem star_cons {a : Expr} {es : List Expr} {env : PySem.Env} (h : noStar (a :: es) = true) : starEach (a :: es) env = (false, eval a env) :: starEach es env := (noStar_cons h).2 env
variable {C : Ctx} {G : Prg} {k : Nat}
theorem in1 {α : Type} (P : α → Hd → Prop) : (fun x h1 => ∃ x', [x] = [x'] ∧ P x' h1) = P := by
  funext x h1
  exact propext ⟨fun ⟨_, e, q⟩ => by cases e; exact q, fun q => ⟨_, rfl, q⟩⟩
theorem in2 {α : Type} (P : α → α → Hd → Prop) (x : α) : (fun y h1 => ∃ x' y', [x, y] = [x', y'] ∧ P x' y' h1) = P x := by
  funext y h1
  exact propext ⟨fun ⟨_, _, e, q⟩ => by cases e; exact q, fun q => ⟨_, _, rfl, q⟩⟩
theorem in3 {α : Type} (P : α → α → α → Hd → Prop) (x y : α) : (fun z h1 => ∃ x' y' z', [x, y, z] = [x', y', z'] ∧ P x' y' z' h1) = P x y := by
  funext z h1
  exact propext ⟨fun ⟨_, _, _, e, q⟩ => by cases e; exact q, fun q => ⟨_, _, _, rfl, q⟩⟩
theorem di_rg1 (ok : COk C G k E X) (hb : mBlt C "range" = true) (ha : PE X a (tD X.K E Ta)) (hs : noStar [a] = true) :
    PI X tg (.Call (.Name "range" p) [a] [] pos) (iD X.K E fun ρ h Q Xd => Ta ρ h (fun x h1 => asInt x fun j => inRange j ∧ Q (rangeD 0 j.toNat 1) h1) Xd) := by
  obtain ⟨h1, h2⟩ := and2 hb
  obtain ⟨h2, h3⟩ := and2 h2
  refine PI.weak (pi_range1 (gl_of ok h2) (ok.free _ (of_decide_eq_true h1)) (da_cons ha da_nil hs) (star_cons hs)) fun σ H R ⟨ρ, h, Qd, Ed, re, hr, t, c, cx⟩ => ?_
  refine ⟨ρ, h, (fun ds h1 => ∃ x, ds = [x] ∧ asInt x fun j => inRange j ∧ Qd (rangeD 0 j.toNat 1) h1), Ed, re, hr, ?_, fun ds h1 vs H1 f1 hr1 r1 q1 => ?_, cx⟩
  · show Ta ρ h (fun x h1 => ∃ x', [x] = [x'] ∧ _) Ed
    rw [in1 fun x h1 => asInt x fun j => inRange j ∧ Qd (rangeD 0 j.toNat 1) h1]
    exact t
  · obtain ⟨x, rfl, qa⟩ := q1
    obtain ⟨j, rfl, q1⟩ := asInt_elim qa
    clear qa
    cases r1 with
    | cons r1 r2 =>
      cases r1; cases r2
      exact ⟨j, rfl, q1.1.1, q1.1.2, c _ _ _ _ f1 hr1 wk_range q1.2⟩
theorem di_rg2 (ok : COk C G k E X) (hb : mBlt C "range" = true) (ha : PE X a (tD X.K E Ta)) (hb2 : PE X b (tD X.K E Tb)) (hs : noStar [a, b] = true) :
    PI X tg (.Call (.Name "range" p) [a, b] [] pos) (iD X.K E fun ρ h Q Xd => Ta ρ h (fun x h1 => Tb ρ h1 (fun y h2 => asInt x fun i => asInt y fun j => inRange i ∧ inRange j ∧ Q (rangeD i (j - i).toNat 1) h2) Xd) Xd) := by
  obtain ⟨h1, h2⟩ := and2 hb
  obtain ⟨h2, h3⟩ := and2 h2
  have hs2 := (noStar_cons hs).1
  refine PI.weak (pi_range2 (gl_of ok h2) (ok.free _ (of_decide_eq_true h1)) (da_cons ha (da_cons hb2 da_nil hs2) hs) (by rw [star_cons hs, star_cons hs2]; rfl) (star_cons hs2)) fun σ H R ⟨ρ, h, Qd, Ed, re, hr, t, c, cx⟩ => ?_
  refine ⟨ρ, h, (fun ds h1 => ∃ x y, ds = [x, y] ∧ asInt x fun i => asInt y fun j => inRange i ∧ inRange j ∧ Qd (rangeD i (j - i).toNat 1) h1), Ed, re, hr, ?_, fun ds h1 vs H1 f1 hr1 r1 q1 => ?_, cx⟩
  · show Ta ρ h (fun x h1 => Tb ρ h1 (fun y h2 => ∃ x' y', [x, y] = [x', y'] ∧ _) Ed) Ed
    have e : (fun (x : D) (h1 : Hd) => Tb ρ h1 (fun y h2 => ∃ x' y', [x, y] = [x', y'] ∧ (asInt x' fun i => asInt y' fun j => inRange i ∧ inRange j ∧ Qd (rangeD i (j - i).toNat 1) h2)) Ed) = fun x h1 => Tb ρ h1 (fun y h2 => asInt x fun i => asInt y fun j => inRange i ∧ inRange j ∧ Qd (rangeD i (j - i).toNat 1) h2) Ed := by
      funext x h1
      rw [in2 fun x y h2 => asInt x fun i => asInt y fun j => inRange i ∧ inRange j ∧ Qd (rangeD i (j - i).toNat 1) h2]
    rw [e]
    exact t
  · obtain ⟨x, y, rfl, qa⟩ := q1
    obtain ⟨i, rfl, qb⟩ := asInt_elim qa
    obtain ⟨j, rfl, qc⟩ := asInt_elim qb
    obtain ⟨q2, q3, q⟩ := qc
    cases r1 with
    | cons r1 r2 =>
      cases r2 with
      | cons r2 r3 =>
        cases r1; cases r2; cases r3
        exact ⟨i, j, rfl, ⟨q2.1, q2.2, q3.1, q3.2⟩, c _ _ _ _ f1 hr1 wk_range q⟩
theorem di_rg3 {e : Expr} {Tc : TD} (ok : COk C G k E X) (hb : mBlt C "range" = true) (ha : PE X a (tD X.K E Ta)) (hb2 : PE X b (tD X.K E Tb)) (hc2 : PE X e (tD X.K E Tc)) (hs : noStar [a, b, e] = true) :
    PI X tg (.Call (.Name "range" p) [a, b, e] [] pos) (iD X.K E fun ρ h Q Xd => Ta ρ h (fun x h1 => Tb ρ h1 (fun y h2 => Tc ρ h2 (fun z h3 => asInt x fun i => asInt y fun j => asInt z fun k => ∃ n, RgC i j k n ∧ Q (rangeD i n k) h3) Xd) Xd) Xd) := by
  obtain ⟨h1, h2⟩ := and2 hb
  obtain ⟨h2, h3⟩ := and2 h2
  have hs2 := (noStar_cons hs).1
  have hs3 := (noStar_cons hs2).1
  refine PI.weak (pi_range3 (gl_of ok h2) (ok.free _ (of_decide_eq_true h1)) (da_cons ha (da_cons hb2 (da_cons hc2 da_nil hs3) hs2) hs) (star_cons hs) (noStar_any hs2)) fun σ H R ⟨ρ, h, Qd, Ed, re, hr, t, c, cx⟩ => ?_
  refine ⟨ρ, h, (fun ds h1 => ∃ x y z, ds = [x, y, z] ∧ asInt x fun i => asInt y fun j => asInt z fun k => ∃ n, RgC i j k n ∧ Qd (rangeD i n k) h1), Ed, re, hr, ?_, fun ds h1 vs H1 f1 hr1 r1 q1 => ?_, cx⟩
  · show Ta ρ h (fun x h1 => Tb ρ h1 (fun y h2 => Tc ρ h2 (fun z h3 => ∃ x' y' z', [x, y, z] = [x', y', z'] ∧ _) Ed) Ed) Ed
    have e : (fun (x : D) (h1 : Hd) => Tb ρ h1 (fun y h2 => Tc ρ h2 (fun z h3 => ∃ x' y' z', [x, y, z] = [x', y', z'] ∧ (asInt x' fun i => asInt y' fun j => asInt z' fun k => ∃ n, RgC i j k n ∧ Qd (rangeD i n k) h3)) Ed) Ed) = fun x h1 => Tb ρ h1 (fun y h2 => Tc ρ h2 (fun z h3 => asInt x fun i => asInt y fun j => asInt z fun k => ∃ n, RgC i j k n ∧ Qd (rangeD i n k) h3) Ed) Ed := by
      funext x h1
      have e : (fun (y : D) (h2 : Hd) => Tc ρ h2 (fun z h3 => ∃ x' y' z', [x, y, z] = [x', y', z'] ∧ (asInt x' fun i => asInt y' fun j => asInt z' fun k => ∃ n, RgC i j k n ∧ Qd (rangeD i n k) h3)) Ed) = fun y h2 => Tc ρ h2 (fun z h3 => asInt x fun i => asInt y fun j => asInt z fun k => ∃ n, RgC i j k n ∧ Qd (rangeD i n k) h3) Ed := by
        funext y h2
        rw [in3 fun x y z h3 => asInt x fun i => asInt y fun j => asInt z fun k => ∃ n, RgC i j k n ∧ Qd (rangeD i n k) h3]
      rw [e]
    rw [e]
    exact t
  · obtain ⟨x, y, z, rfl, qa⟩ := q1
    obtain ⟨i, rfl, qb⟩ := asInt_elim qa
    obtain ⟨j, rfl, qc⟩ := asInt_elim qb
    obtain ⟨kk, rfl, qd⟩ := asInt_elim qc
    obtain ⟨n, q2, q⟩ := qd
    cases r1 with
    | cons r1 r2 =>
      cases r2 with
      | cons r2 r3 =>
        cases r3 with
        | cons r3 r4 =>
          cases r1; cases r2; cases r3; cases r4
          exact ⟨i, j, kk, n, rfl, q2, c _ _ _ _ f1 hr1 wk_rangeC q⟩

/-! ### enumerate, zip: new pairs -/
theorem enum_get {ds : List D} {i : Nat} {d : D} (e : (enumD ds)[i]? = some d) : ∃ x, ds[i]? = some x ∧ d = .tup [.int i, x] := by
  unfold enumD at e
  rw [List.getElem?_map, List.getElem?_zipIdx] at e
  cases q : ds[i]? with
  | none => rw [q] at e; cases e
  | some x => rw [q] at e; cases e; exact ⟨x, rfl, by simp⟩
theorem enum_len {ds : List D} : (enumD ds).length = ds.length := by unfold enumD; simp
theorem zip_get {ds es : List D} {i : Nat} {d : D} (e : (zipD ds es)[i]? = some d) : ∃ x y, ds[i]? = some x ∧ es[i]? = some y ∧ d = .tup [x, y] := by
  unfold zipD at e
  rw [List.getElem?_map] at e
  cases q : (ds.zip es)[i]? with
  | none => rw [q] at e; cases e
  | some z =>
    rw [q] at e; cases e
    obtain ⟨x, y⟩ := z
    obtain ⟨q1, q2⟩ := List.getElem?_zip_eq_some.mp q
    exact ⟨x, y, q1, q2, rfl⟩
theorem zip_len {ds es : List D} : (zipD ds es).length = min ds.length es.length := by unfold zipD; simp
theorem pair_new {K : PySem.W.Frag} {h : Hd} {H : Hp} {d1 d2 : D} {v1 v2 : V} {T : Addr} (hr : HRel K H h) (n : H T = none) (r1 : Rep K H h d1 v1) (r2 : Rep K H h d2 v2) :
    Frm h H h (upd H T (.tup [v1, v2])) ∧ HRel K (upd H T (.tup [v1, v2])) h ∧ Rep K (upd H T (.tup [v1, v2])) h (.tup [d1, d2]) (.ref T) :=
  ⟨Frm.newF n, hr.newF n, Rep.newT hr (.cons r1 (.cons r2 .nil)) n⟩
theorem wk_enumG {K : PySem.W.Frag} {h : Hd} {H : Hp} {ds : List D} {vs : List V} {has : Hp → List V → Prop} (r : Reps K H h ds vs) (st : ∀ h2 H2, Frm h H h2 H2 → has H2 vs) : Wk K (IteG has) h H (enumD ds) := fun h2 H2 f hr2 i => by
  refine ⟨fun d e => ?_, fun hl => ⟨vs, st h2 H2 f, by rw [← r.length, ← enum_len]; exact hl.symm⟩⟩
  obtain ⟨x, ex, rfl⟩ := enum_get e
  obtain ⟨v, e1, r1⟩ := r.get ex
  refine ⟨⟨vs, v, st h2 H2 f, e1⟩, fun y H' ⟨T, v2, e2, n, e3, hx⟩ => ?_⟩
  subst e2 e3
  have q := hx vs (st h2 _ f)
  rw [e1] at q; cases q
  exact pair_new hr2 n (.int _) (r1.frm f)
theorem chs_reps {K : PySem.W.Frag} {H : Hp} {h : Hd} {x : Str} : Reps K H h (chs x) (chsV x) := by
  unfold chs chsV
  induction x.cps.toList with
  | nil => exact .nil
  | cons c r ih => exact .cons (.str _) ih
theorem wk_enum {K : PySem.W.Frag} {h : Hd} {H : Hp} {ds : List D} {vs : List V} {a : Addr} (r : Reps K H h ds vs) (st : ∀ h2 H2, Frm h H h2 H2 → SqL K H2 a vs) : Wk K (Ite K a) h H (enumD ds) := fun h2 H2 f hr2 i => by
  refine ⟨fun d e => ?_, fun hl => ⟨vs, st h2 H2 f, by rw [← r.length, ← enum_len]; exact Nat.le_of_eq hl.symm⟩⟩
  obtain ⟨x, ex, rfl⟩ := enum_get e
  obtain ⟨v, e1, r1⟩ := r.get ex
  refine ⟨⟨vs, v, st h2 H2 f, e1⟩, fun y H' ⟨T, v2, e2, n, e3, hx⟩ => ?_⟩
  subst e2 e3
  have q := hx vs (st h2 _ f)
  rw [e1] at q; cases q
  exact pair_new hr2 n (.int _) (r1.frm f)
end
end Y
namespace Y
open PySem PySem.Spec PyProof.Rows L2

/-! ### the list side by side, as one that may be changed -/
theorem do_addM {X : Cx} : OpR X (binaryOp .Add) (lift2 X.K addM) := by
  intro pins s σ H u v v' u' Q I ru rv hx
  obtain ⟨h, x, y, Qd, hr, rx, ry, q, c⟩ := hx
  unfold addM at q
  cases e1 : seqL h x with
  | none => rw [e1] at q; exact q.elim
  | some i =>
    cases e2 : seqL h y with
    | none => rw [e1, e2] at q; exact q.elim
    | some j =>
      rw [e1, e2] at q
      obtain ⟨a, vs, rfl, ha, ra⟩ := seqL_ok hr rx e1
      obtain ⟨b, us, rfl, hb, rb⟩ := seqL_ok hr ry e2
      obtain ⟨z, q⟩ := q
      refine op_cat pins s σ H _ _ _ _ Q I ru rv ⟨a, b, vs, us, rfl, rfl, ha, hb, by rw [← ra.length, ← rb.length, ← List.length_append]; rw [List.length_append]; exact z, fun p n => ?_⟩
      have at_ : At X.K (upd H p (.lst (vs ++ us))) (hupd h p (.lst (i ++ j))) p (.lst (i ++ j)) := ⟨_, upd_same, (ra.append rb).frm (Frm.new n (hr.gone n))⟩
      exact c _ _ _ _ (Frm.new n (hr.gone n)) (hr.new n at_) (.ref p) (q p (hr.gone n))

/-! ### zip of lists and tuples in any order -/
def SqK (K : PySem.W.Frag) (H : Hp) (l : Bool) (a : Addr) (vs : List V) : Prop := match l with
  | true => SqL K H a vs
  | false => SqT K H a vs
def IsK (h : Heap) (l : Bool) (a : Addr) (its : Array Value) : Prop := match l with
  | true => h.IsList a its
  | false => h.IsTuple a its
def ItrK (h : Heap) (l : Bool) (it a : Addr) (i : Nat) : Prop := match l with
  | true => h.IsListIter it a i
  | false => h.IsTupleIter it a i
def itO (l : Bool) (a : Addr) : Obj := match l with
  | true => { cls := .type "list_iterator", data := .fields #[.ref a, .int 0 0] }
  | false => { cls := .type "tuple_iterator", data := .fields #[.ref a, .int 0 0] }
theorem drawsK {prog : Program} {w : World} {A : Around} (hh : A.handled = none) (l : Bool) (it a : Addr) (hne : a ≠ it) (items : Array Value) :
    Draws prog w A it [it, a] items.size (fun i v => items[i]? = some v) (fun i h => ItrK h l it a i ∧ IsK h l a items) := by
  cases l with
  | true => exact Draws.list hh it a hne items
  | false => exact Draws.tuple hh it a hne items
theorem beginsK (l : Bool) (a : Addr) (items : Array Value) : Begins (.ref a) (itO l a) fun h => IsK h l a items := by
  cases l with
  | true => exact begins_list a items
  | false => exact begins_tuple a items
theorem ItrK.start {h : Heap} {l : Bool} {it a : Addr} (e : h.get? it = some (itO l a)) : ItrK h l it a 0 := by
  cases l with
  | true => exact ⟨_, e, rfl, rfl⟩
  | false => exact ⟨_, e, rfl, rfl⟩
theorem ItrK.obj {h : Heap} {l : Bool} {it a : Addr} {i : Nat} (x : ItrK h l it a i) : ∃ o, h.get? it = some o ∧ ∀ v, o.data ≠ .cell v := by
  cases l with
  | true => obtain ⟨o, e1, _, d1⟩ := x; exact ⟨o, e1, fun v q => by rw [d1] at q; cases q⟩
  | false => obtain ⟨o, e1, _, d1⟩ := x; exact ⟨o, e1, fun v q => by rw [d1] at q; cases q⟩
theorem ItrK.at {h h' : Heap} {l : Bool} {it a : Addr} {i : Nat} (x : ItrK h l it a i) (k : ∀ o, h.get? it = some o → h'.get? it = some o) : ItrK h' l it a i := by
  cases l with
  | true => exact Heap.IsListIter.at x k
  | false => exact Heap.IsTupleIter.at x k
theorem IsK.lt {h : Heap} {l : Bool} {a : Addr} {its : Array Value} (x : IsK h l a its) : a < h.objs.size := by
  cases l with
  | true => obtain ⟨o, e, _⟩ := x; exact Heap.lt_size e
  | false => obtain ⟨o, e, _⟩ := x; exact Heap.lt_size e
theorem seqK {X : Cx} {pins : List (Addr × Obj)} {σ : L2.St} {s : Shared} {H : Hp} (I : Inv X pins σ H s) {l : Bool} {a : Addr} {vs : List V} (q : SqK X.K H l a vs) : ∃ its, Vals vs its ∧ IsK s.heap l a its.toArray := by
  cases l with
  | true => obtain ⟨its, r, p, _⟩ := I.list q; exact ⟨its, r, p.isList⟩
  | false => obtain ⟨its, r, p, _⟩ := I.tuple q; exact ⟨its, r, p⟩
theorem seqK_inj {X : Cx} {pins : List (Addr × Obj)} {σ : L2.St} {s : Shared} {H : Hp} (I : Inv X pins σ H s) {l : Bool} {a : Addr} {vs us : List V} (q : SqK X.K H l a vs) (q' : SqK X.K H l a us) : vs = us := by
  cases l with
  | true => exact I.list_inj q q'
  | false => exact I.tuple_inj q q'
def ItzK (K : PySem.W.Frag) (l m : Bool) (a b : Addr) : L2.It :=
  ⟨fun i H => ∃ (xs ys : List V) (x y : V), SqK K H l a xs ∧ SqK K H m b ys ∧ xs[i]? = some x ∧ ys[i]? = some y,
    fun i H v H' => ∃ T x y, v = .ref T ∧ H T = none ∧ H' = upd H T (.tup [x, y]) ∧ (∀ xs, SqK K H l a xs → xs[i]? = some x) ∧ ∀ ys, SqK K H m b ys → ys[i]? = some y,
    fun i H => ∃ xs ys : List V, SqK K H l a xs ∧ SqK K H m b ys ∧ i = min xs.length ys.length⟩
structure Apt (z TI TO i1 i2 a b : Addr) : Prop where
  sep : ZipSep2 z TI TO i1 i2 [i1, a] [i2, b]
  a1 : a ≠ i1
  b2 : b ≠ i2
theorem turn_zipK {P : Program} {w : World} {K : PySem.W.Frag} {elts : List Expr} {kk : Nat} {tpos : Pos} {l m : Bool} {a b z TI TO i1 i2 : Addr} (D : Apt z TI TO i1 i2 a b) :
    Turn P w K (.Tuple elts kk tpos) (ItzK K l m a b) [z, TI, TO, i1, i2] z (fun i h => IsZip h z TI TO .none ∧ IsTupOf2 h TI (.ref i1) (.ref i2) ∧ (∃ x y, IsTupOf2 h TO x y) ∧ ItrK h l i1 a i ∧ ItrK h m i2 b i) where
  mem := by simp
  obj := fun i h st c hc => by
    obtain ⟨hz, hTI, ⟨x, y, hTO⟩, h1, h2⟩ := st
    have e' : c = z ∨ c = TI ∨ c = TO ∨ c = i1 ∨ c = i2 := by simpa using hc
    rcases e' with q | q | q | q | q
    · rw [q]; exact ⟨_, hz, fun v q => nomatch q⟩
    · rw [q]; exact ⟨_, hTI, fun v q => nomatch q⟩
    · rw [q]; exact ⟨_, hTO, fun v q => nomatch q⟩
    · rw [q]; exact h1.obj
    · rw [q]; exact h2.obj
  keep := fun i h h' st k => by
    obtain ⟨hz, hTI, ⟨x, y, hTO⟩, h1, h2⟩ := st
    exact ⟨k z (by simp) _ hz, k TI (by simp) _ hTI, ⟨x, y, k TO (by simp) _ hTO⟩, h1.at fun o q => k i1 (by simp) o q, h2.at fun o q => k i2 (by simp) o q⟩
  item := by
    intro X hP hw hK hc i pins s σ H E I hf st hg
    subst hP hw hK
    obtain ⟨hz, hTI, ⟨x0, y0, hTO⟩, h1, h2⟩ := st
    obtain ⟨xs, ys, x, y, hqx, hqy, hx, hy⟩ := hg
    obtain ⟨its, rv, p⟩ := seqK I hqx
    obtain ⟨its2, rv2, p2⟩ := seqK I hqy
    obtain ⟨u, hu, ru⟩ := rv.get hx
    obtain ⟨u2, hu2, ru2⟩ := rv2.get hy
    have hlen : i < its.toArray.size := by
      have := (List.getElem?_eq_some_iff.mp hu).1
      simpa using this
    have hlen2 : i < its2.toArray.size := by
      have := (List.getElem?_eq_some_iff.mp hu2).1
      simpa using this
    have hzl : z < s.heap.objs.size := Heap.lt_size hz
    have hh : X.A.in1.handled = none := I.ok.hd hc
    refine wpAny_pyNext_zipD2_item D.sep (drawsK hh l i1 a D.a1 its.toArray) (drawsK hh m i2 b D.b2 its2.toArray) hz hTI hTO ⟨h1, p⟩ ⟨h2, p2⟩ hlen hlen2 fun w1 w2 h' tk e1 e2 z' TO' h1' h2' hT hsz hk => ?_
    have e1 : w1 = u := by have q : its.toArray[i]? = some u := by simpa using hu
                           rw [q] at e1; cases e1; rfl
    have e2 : w2 = u2 := by have q : its2.toArray[i]? = some u2 := by simpa using hu2
                            rw [q] at e2; cases e2; rfl
    subst e1 e2
    refine ⟨_, rfl, wpAny_letOwnedTupleGo_zip (s := { s with heap := h', toks := tk }) z' fun h'' z'' sb => ?_⟩
    have hT2 : h''.get? s.heap.objs.size = some { cls := .type "tuple", data := .seq #[w1, w2] } := (sb.2 _ (Nat.ne_of_gt hzl)).trans hT
    have new : ObjOk X.prog X.w (upd H s.heap.objs.size (.tup [x, y])) h'' s.heap.objs.size (.tup [x, y]) :=
      ⟨by show 2 ≤ sizeLine; decide, [w1, w2], .cons ru (.cons ru2 .nil), ⟨_, hT2, rfl, _, rfl⟩⟩
    have I1 : Inv X pins σ (upd H s.heap.objs.size (.tup [x, y])) { s with heap := h'', toks := tk } :=
      I.turnedNew (t' := tk) (ch := [z, TI, TO, i1, i2]) (fun c o hb q => (sb.2 c (fun q' => hb (by simp [q']))).trans (hk c o (fun q' => hb (by simp [q'])) (fun q' => hb (by simp [q'])) (fun q' => hb (by simp [q'])) (fun q' => hb (by simp [q'])) q)) hf (Nat.le_refl _) new
    refine ⟨.ref s.heap.objs.size, _, I1, rfl, ⟨_, x, y, rfl, I.hok.fresh (Nat.le_refl _), rfl, fun l hl => by rw [seqK_inj I hl hqx]; exact hx, fun l hl => by rw [seqK_inj I hl hqy]; exact hy⟩, ⟨z'', ?_, ⟨w1, w2, ?_⟩, ?_, ?_⟩, fun c hcm => ?_⟩
    · exact (sb.2 _ D.sep.TIz).trans (hk _ _ D.sep.TIz D.sep.TITO D.sep.TIi1 D.sep.TIi2 hTI)
    · exact (sb.2 _ D.sep.TOz).trans TO'
    · exact h1'.1.at fun o q => (sb.2 _ D.sep.zi1.symm).trans q
    · exact h2'.1.at fun o q => (sb.2 _ D.sep.zi2.symm).trans q
    · have hlt : c < s.heap.objs.size := by
        have e' : c = z ∨ c = TI ∨ c = TO ∨ c = i1 ∨ c = i2 := by simpa using hcm
        rcases e' with q | q | q | q | q
        · rw [q]; exact hzl
        · rw [q]; exact Heap.lt_size hTI
        · rw [q]; exact Heap.lt_size hTO
        · rw [q]; obtain ⟨_, e1, _⟩ := h1.obj; exact Heap.lt_size e1
        · rw [q]; obtain ⟨_, e2, _⟩ := h2.obj; exact Heap.lt_size e2
      rw [upd_ne (Nat.ne_of_lt hlt)]
      exact (hf c hcm).1
  done := by
    intro X hP hw hK hc i pins s σ H E I hf st hg
    subst hP hw hK
    obtain ⟨hz, hTI, ⟨x0, y0, hTO⟩, h1, h2⟩ := st
    obtain ⟨xs, ys, hqx, hqy, hend⟩ := hg
    obtain ⟨its, rv, p⟩ := seqK I hqx
    obtain ⟨its2, rv2, p2⟩ := seqK I hqy
    have l1 := rv.length
    have l2 := rv2.length
    have hh : X.A.in1.handled = none := I.ok.hd hc
    refine wpAny_pyNext_zipD2_end D.sep (drawsK hh l i1 a D.a1 its.toArray) (drawsK hh m i2 b D.b2 its2.toArray) hz hTI hTO ⟨h1, p⟩ ⟨h2, p2⟩ (by simp; omega) (by simp; omega) (by simp; omega) fun h' tk hk => ⟨rfl, I.turnedL (t' := tk) (ch := [z, TI, TO, i1, i2]) (fun c o hb q =>
      hk c o (fun q' => hb (by simp [q'])) (fun q' => hb (by simp [q'])) (fun q' => hb (by simp [q'])) (fun q' => hb (by simp [q'])) q) hf⟩
  self := fun A i s Q E st h => wpAny_pyIter_zip st.1 h
theorem wk_zipK {K : PySem.W.Frag} {h : Hd} {H : Hp} {ds es : List D} {vs us : List V} {l m : Bool} {a b : Addr} (r : Reps K H h ds vs) (r' : Reps K H h es us) (st : ∀ h2 H2, Frm h H h2 H2 → SqK K H2 l a vs) (st' : ∀ h2 H2, Frm h H h2 H2 → SqK K H2 m b us) :
    Wk K (ItzK K l m a b) h H (zipD ds es) := fun h2 H2 f hr2 i => by
  refine ⟨fun d e => ?_, fun hl => ⟨vs, us, st h2 H2 f, st' h2 H2 f, by rw [zip_len, r.length, r'.length] at hl; omega⟩⟩
  obtain ⟨x, y, ex, ey, rfl⟩ := zip_get e
  obtain ⟨v, e1, r1⟩ := r.get ex
  obtain ⟨u, e1', r1'⟩ := r'.get ey
  refine ⟨⟨vs, us, v, u, st h2 H2 f, st' h2 H2 f, e1, e1'⟩, fun y H' ⟨T, v2, u2, e2, n, e3, hx, hy⟩ => ?_⟩
  subst e2 e3
  have q := hx vs (st h2 _ f)
  rw [e1] at q; cases q
  have q := hy us (st' h2 _ f)
  rw [e1'] at q; cases q
  exact pair_new hr2 n (r1.frm f) (r1'.frm f)
section
variable {C : Ctx} {G : Prg} {k : Nat} {E : XKs} {X : Cx} {a b d : Expr} {tg : Expr} {Ta Tb : TD} {Ts : TDs} {pos p tp : Pos} {elts : List Expr} {kk : Nat}
theorem lstF_ok {h : Hd} {H : Hp} {d : D} {v : V} {ds : List D} (r : Rep X.K H h d v) (e : lstF d = some ds) : ∃ a vs, v = .ref a ∧ Reps X.K H h ds vs ∧ ∀ h2 H2, Frm h H h2 H2 → SqL X.K H2 a vs := by
  cases r with
  | lst e1 n r =>
    cases e
    exact ⟨_, _, rfl, r, fun h2 H2 f => .inl (.inl (f.keep _ _ e1 n).1)⟩
  | scr e1 =>
    cases e
    exact ⟨_, _, rfl, Reps.ints _, fun h2 H2 f => (e1.frm f).sqL⟩
  | _ => cases e
theorem seqK_ok {h : Hd} {H : Hp} {d : D} {v : V} {ds : List D} (r : Rep X.K H h d v) (e : seqF d = some ds) : ∃ a vs l, v = .ref a ∧ Reps X.K H h ds vs ∧ ∀ h2 H2, Frm h H h2 H2 → SqK X.K H2 l a vs := by
  obtain ⟨a, vs, e1, r1, st | st⟩ := seqF_ok r e
  · exact ⟨a, vs, true, e1, r1, st⟩
  · exact ⟨a, vs, false, e1, r1, st⟩
theorem di_enm (ok : COk C G k E X) (hb : mBlt C "enumerate" = true) (ha : PE X a (tD X.K E Ta)) (hs : noStar [a] = true) :
    PI X (.Tuple elts kk tp) (.Call (.Name "enumerate" p) [a] [] pos) (iD X.K E fun ρ h Q Xd => Ta ρ h (fun x h1 => match seqW x with
    | some ds => Q (enumD ds) h1
    | none => False) Xd) := by
  obtain ⟨h1, h2⟩ := and2 hb
  obtain ⟨h2, h3⟩ := and2 h2
  refine ⟨fun pins s σ H R I hx => ?_⟩
  obtain ⟨ρ, h, Qd, Ed, re, hr, t, c, cx⟩ := hx
  refine Call_ (ld_blt I (gl_of ok h2) (ok.free _ (of_decide_eq_true h1)) boot_enumerate (PyProof.Rows.callWith_type1 (thn ((da_cons ha da_nil hs).run pos pins s σ H (fun vs H1 => ∃ h1 x v, vs = [v] ∧ Frm h H h1 H1 ∧ HRel X.K H1 h1 ∧ Rep X.K H1 h1 x v ∧ match seqW x with
    | some ds => Qd (enumD ds) h1
    | none => False) I ⟨ρ, h, (fun ds h1 => ∃ x, ds = [x] ∧ match seqW x with
    | some ds => Qd (enumD ds) h1
    | none => False), Ed, re, hr, ?_, fun ds h1 vs H1 f1 hr1 r1 q1 => ?_, cx⟩) fun us s1 ⟨vs, H1, I1, r1, h1, x, v, ev, f1, hr1, rd, q1⟩ => ?_) (star_cons hs) rfl))
  · show Ta ρ h (fun x h1 => ∃ x', [x] = [x'] ∧ _) Ed
    rw [in1 fun x h1 => match seqW x with
      | some ds => Qd (enumD ds) h1
      | none => False]
    exact t
  · obtain ⟨x, rfl, q1⟩ := q1
    cases r1 with
    | cons r1 r2 =>
      cases r2
      exact ⟨h1, x, _, rfl, f1, hr1, r1, q1⟩
  · subst ev
    obtain ⟨u, rfl, ru⟩ := vals1 r1
    have fin : ∀ {ob : Obj} {Hv : Heap → Prop} {has : Hp → List V → Prop} {tn : Nat → Heap → Prop} {ds : List D} {ws : List V}, Begins u ob Hv → Hv s1.heap → (∀ h' : Heap, h'.get? s1.heap.objs.size = some ob → tn 0 h') → Sou X.prog X.w X.K s1.heap.objs.size has tn → Reps X.K H1 h1 ds ws → (∀ h2 H2, Frm h1 H1 h2 H2 → has H2 ws) → Qd (enumD ds) h1 →
        wpAny (model X.prog X.w) X.A (call (.type "enumerate") [u]) (fun v s1 => wpAny (model X.prog X.w) X.A (pyIter v) (PIE X pins σ (.Tuple elts kk tp) R) X.xe s1) X.xe s1 := by
      intro ob Hv has tn ds ws B hv h0 So rs st q
      refine enum_begins1 B hv fun h' he hit hsz hk => wpAny_pyIter_enum he ?_
      have I2 : Inv X pins σ H1 { s1 with heap := h' } := I1.kept (t' := s1.toks) hk
      refine ⟨s1.heap.objs.size + 1, [s1.heap.objs.size + 1, s1.heap.objs.size], _, _, H1, rfl, I2, turn_enumG (s1.heap.objs.size + 1) s1.heap.objs.size So, ⟨⟨.none, he⟩, h0 h' hit, Nat.succ_ne_self _⟩, fun b hb => ?_, c _ _ _ _ f1 hr1 (wk_enumG rs st) q⟩
      have e' : b = s1.heap.objs.size + 1 ∨ b = s1.heap.objs.size := by simpa using hb
      have hle : s1.heap.objs.size ≤ b := by
        rcases e' with z | z
        · rw [z]; exact Nat.le_add_right _ _
        · rw [z]; exact Nat.le_refl _
      exact I1.fpOk hle (I1.hok.fresh hle)
    have other : (∀ z, x ≠ .str z) → wpAny (model X.prog X.w) X.A (call (.type "enumerate") [u]) (fun v s1 => wpAny (model X.prog X.w) X.A (pyIter v) (PIE X pins σ (.Tuple elts kk tp) R) X.xe s1) X.xe s1 := fun n => by
      cases e : seqF x with
      | none =>
        have q1 : match seqW x with | some ds => Qd (enumD ds) h1 | none => False := q1
        cases x <;> first | exact absurd rfl (n _) | (cases e; done) | exact q1.elim
      | some ds =>
        have q1 : Qd (enumD ds) h1 := by
          cases x <;> first | exact absurd rfl (n _) | (cases e; done) | (cases e; exact q1)
        obtain ⟨a, vs, rfl, rs, st⟩ := seqF_ok rd e
        cases ru
        rcases st with st | st
        · obtain ⟨its, ri, pl, hz⟩ := I1.list (st h1 H1 Frm.refl)
          exact fin (begins_list a its.toArray) pl.isList (fun h' e => ⟨_, e, rfl, rfl⟩) (sou_list a _) rs st q1
        · obtain ⟨its, ri, pl, hz⟩ := I1.tuple (st h1 H1 Frm.refl)
          exact fin (begins_tuple a its.toArray) (show s1.heap.IsTuple a its.toArray from pl) (fun h' e => ⟨_, e, rfl, rfl⟩) (sou_tup a _) rs st q1
    cases x with
    | str z =>
      cases rd
      obtain ⟨t, rfl⟩ := ru
      exact fin (begins_text z t) trivial (fun h' e => ⟨_, e, rfl, rfl⟩) (sou_str z t _) chs_reps (fun _ _ _ => rfl) q1
    | _ => exact other fun z q => by cases q
theorem apt_new {N a b : Nat} (h1 : a < N) (h2 : b < N) : Apt (N + 4) (N + 2) (N + 3) N (N + 1) a b :=
  ⟨zip_sep2 (fun c hc => by cases hc with | head => exact h1 | tail _ q => cases q) (fun c hc => by cases hc with | head => exact h2 | tail _ q => cases q), Nat.ne_of_lt h1, Nat.ne_of_lt (Nat.lt_succ_of_lt h2)⟩
theorem di_zip (ok : COk C G k E X) (hb : mBlt C "zip" = true) (ha : PE X a (tD X.K E Ta)) (hb2 : PE X b (tD X.K E Tb)) (hs : noStar [a, b] = true) :
    PI X (.Tuple elts kk tp) (.Call (.Name "zip" p) [a, b] [] pos) (iD X.K E fun ρ h Q Xd => Ta ρ h (fun x h1 => Tb ρ h1 (fun y h2 => match seqF x, seqF y with
    | some ds, some es => Q (zipD ds es) h2
    | _, _ => False) Xd) Xd) := by
  obtain ⟨h1, h2⟩ := and2 hb
  obtain ⟨h2, h3⟩ := and2 h2
  have hs2 := (noStar_cons hs).1
  refine ⟨fun pins s σ H R I hx => ?_⟩
  obtain ⟨ρ, h, Qd, Ed, re, hr, t, c, cx⟩ := hx
  have hp := da_cons ha (da_cons hb2 da_nil hs2) hs
  refine Call_ (ld_blt I (gl_of ok h2) (ok.free _ (of_decide_eq_true h1)) PyProof.Rows.boot_zip (PyProof.Rows.callWith_type1 (thn (hp.run pos pins s σ H (fun vs H1 => ∃ h1 x y, Frm h H h1 H1 ∧ HRel X.K H1 h1 ∧ Reps X.K H1 h1 [x, y] vs ∧ match seqF x, seqF y with
    | some ds, some es => Qd (zipD ds es) h1
    | _, _ => False) I ⟨ρ, h, (fun ds h1 => ∃ x y, ds = [x, y] ∧ match seqF x, seqF y with
    | some ds, some es => Qd (zipD ds es) h1
    | _, _ => False), Ed, re, hr, ?_, fun ds h1 vs H1 f1 hr1 r1 q1 => ?_, cx⟩) fun us s1 ⟨vs, H1, I1, r1, q1⟩ => ?_) (star_cons hs) (noStar_any hs2)))
  · show Ta ρ h (fun x h1 => Tb ρ h1 (fun y h2 => ∃ x' y', [x, y] = [x', y'] ∧ _) Ed) Ed
    have e : (fun (x : D) (h1 : Hd) => Tb ρ h1 (fun y h2 => ∃ x' y', [x, y] = [x', y'] ∧ (match seqF x', seqF y' with
      | some ds, some es => Qd (zipD ds es) h2
      | _, _ => False)) Ed) = fun x h1 => Tb ρ h1 (fun y h2 => match seqF x, seqF y with
      | some ds, some es => Qd (zipD ds es) h2
      | _, _ => False) Ed := by
      funext x h1
      rw [in2 fun x y h2 => match seqF x, seqF y with
        | some ds, some es => Qd (zipD ds es) h2
        | _, _ => False]
    exact e ▸ t
  · obtain ⟨x, y, rfl, q1⟩ := q1
    exact ⟨h1, x, y, f1, hr1, r1, q1⟩
  · obtain ⟨h1, x, y, f1, hr1, rd, q1⟩ := q1
    cases rd with
    | cons rx rd =>
      cases rd with
      | cons ry rd =>
        cases rd
        cases r1 with
        | cons r r1 =>
          cases r1 with
          | cons r' r1 =>
            cases r1
            cases e1 : seqF x with
            | none => rw [e1] at q1; exact q1.elim
            | some ds =>
              cases e2 : seqF y with
              | none => rw [e1, e2] at q1; exact q1.elim
              | some es =>
                rw [e1, e2] at q1
                obtain ⟨a1, vs, l, rfl, rs, st⟩ := seqK_ok rx e1
                obtain ⟨b1, us, m, rfl, rs', st'⟩ := seqK_ok ry e2
                cases r
                cases r'
                obtain ⟨its, rv, p1⟩ := seqK I1 (st _ _ Frm.refl)
                obtain ⟨its2, rv2, p2⟩ := seqK I1 (st' _ _ Frm.refl)
                have la := p1.lt
                have lb := p2.lt
                refine zip_begins2 (beginsK l a1 its.toArray) (beginsK m b1 its2.toArray) p1 p2 fun h' hz hTI hTO h1' h2' hsz hk => wpAny_pyIter_zip hz ?_
                have I2 : Inv X pins σ H1 { s1 with heap := h' } := I1.kept (t' := s1.toks) hk
                refine ⟨s1.heap.objs.size + 4, [s1.heap.objs.size + 4, s1.heap.objs.size + 2, s1.heap.objs.size + 3, s1.heap.objs.size, s1.heap.objs.size + 1], _, _, H1, rfl, I2, turn_zipK (l := l) (m := m) (apt_new la lb), ⟨hz, hTI, ⟨_, _, hTO⟩, .start h1', .start h2'⟩, fun c hcm => ?_, c _ _ _ _ f1 hr1 (wk_zipK rs rs' st st') q1⟩
                have e' : c = s1.heap.objs.size + 4 ∨ c = s1.heap.objs.size + 2 ∨ c = s1.heap.objs.size + 3 ∨ c = s1.heap.objs.size ∨ c = s1.heap.objs.size + 1 := by simpa using hcm
                have hle : s1.heap.objs.size ≤ c := by
                  rcases e' with z | z | z | z | z
                  · rw [z]; exact Nat.le_add_right _ _
                  · rw [z]; exact Nat.le_add_right _ _
                  · rw [z]; exact Nat.le_add_right _ _
                  · rw [z]; exact Nat.le_refl _
                  · rw [z]; exact Nat.le_add_right _ _
                exact I1.fpOk hle (I1.hok.fresh hle)
end
end Y
namespace Y
open PySem PySem.Spec PyProof.Rows L2

/-! ### targets by data -/
def Same (sl : List Nat) (σ σ' : L2.St) : Prop := σ'.length = σ.length ∧ ∀ j, j ∉ sl → σ'[j]? = σ[j]?
theorem Same.refl {sl : List Nat} {σ : L2.St} : Same sl σ σ := ⟨rfl, fun _ _ => rfl⟩
theorem Same.trans {sl tl : List Nat} {σ σ1 σ2 : L2.St} (a : Same sl σ σ1) (b : Same tl σ1 σ2) : Same (sl ++ tl) σ σ2 :=
  ⟨b.1.trans a.1, fun j h => by
    rw [List.mem_append, not_or] at h
    exact (b.2 j h.2).trans (a.2 j h.1)⟩
theorem wipe_get {σ : L2.St} : ∀ {vs : List Nat} {j : Nat}, (wipe σ vs)[j]? = if j < σ.length then (if j ∈ vs then some none else σ[j]?) else none
  | [], j => by
    show σ[j]? = _
    by_cases h : j < σ.length
    · rw [if_pos h]; simp
    · rw [if_neg h]; exact List.getElem?_eq_none (by omega)
  | v :: vs, j => by
    unfold wipe
    have hl := wipe_length σ vs
    by_cases e : v = j
    · subst e
      by_cases h : v < σ.length
      · rw [List.getElem?_set_self (by rw [hl]; exact h), if_pos h, if_pos List.mem_cons_self]
      · rw [if_neg h]; exact List.getElem?_eq_none (by rw [List.length_set, hl]; omega)
    · rw [List.getElem?_set_ne e, wipe_get]
      by_cases h : j < σ.length
      · rw [if_pos h, if_pos h]
        by_cases m : j ∈ vs
        · rw [if_pos m, if_pos (List.mem_cons_of_mem _ m)]
        · rw [if_neg m, if_neg (by simp only [List.mem_cons, not_or]; exact ⟨Ne.symm e, m⟩)]
      · rw [if_neg h, if_neg h]
theorem wipe_same {sl vs : List Nat} {σ σ' : L2.St} (h : ∀ i ∈ sl, i ∈ vs) (s : Same sl σ σ') : wipe σ' vs = wipe σ vs := by
  refine List.ext_getElem? fun j => ?_
  rw [wipe_get, wipe_get, s.1]
  by_cases hj : j < σ.length
  · rw [if_pos hj, if_pos hj]
    by_cases m : j ∈ vs
    · rw [if_pos m, if_pos m]
    · rw [if_neg m, if_neg m, s.2 j fun q => m (h j q)]
  · rw [if_neg hj, if_neg hj]
theorem wipe_wipe {vs : List Nat} {σ : L2.St} : wipe (wipe σ vs) vs = wipe σ vs := by
  refine List.ext_getElem? fun j => ?_
  rw [wipe_get, wipe_length, wipe_get]
  by_cases hj : j < σ.length
  · rw [if_pos hj, if_pos hj]
    by_cases m : j ∈ vs
    · rw [if_pos m, if_pos m]
    · rw [if_neg m]
  · rw [if_neg hj, if_neg hj]
theorem RelE.wipe {K : PySem.W.Frag} {H : Hp} {h : Hd} {ρ : DEnv} {σ : L2.St} (r : RelE K H h ρ σ) : ∀ vs : List Nat, RelE K H h (wipeE ρ vs) (L2.wipe σ vs)
  | [] => r
  | v :: vs => by
    have ih := RelE.wipe r vs
    unfold wipeE L2.wipe
    rw [noE_set]
    refine ⟨by simp [ih.len], fun j d z => ?_⟩
    by_cases hj : v = j
    · subst hj
      by_cases hi : v < (wipeE ρ vs).length
      · rw [List.getElem?_set_self hi] at z; cases z
      · rw [List.getElem?_eq_none (by simp; omega)] at z; cases z
    · rw [List.getElem?_set_ne hj] at z
      obtain ⟨u, e1, r1⟩ := ih.get j d z
      exact ⟨u, by rw [List.getElem?_set_ne hj]; exact e1, r1⟩
theorem RelE.st {K : PySem.W.Frag} {H : Hp} {h : Hd} {ρ : DEnv} {σ : L2.St} {d : D} {v : V} (r : RelE K H h ρ σ) (q : Rep K H h d v) (i : Nat) : RelE K H h (stE ρ i d) (σ.set i (some v)) := by rw [stE_set]; exact r.set q i
abbrev TDG := D → DEnv → Hd → (DEnv → Hd → Prop) → QX → Prop
abbrev TDGs := List D → DEnv → Hd → (DEnv → Hd → Prop) → QX → Prop
def ClG (K : PySem.W.Frag) (sl : List Nat) (h : Hd) (H : Hp) (σ : L2.St) (Qd : DEnv → Hd → Prop) (Q : L2.St → Hp → Prop) : Prop :=
  ∀ ρ1 h1 σ1 H1, Frm h H h1 H1 → HRel K H1 h1 → RelE K H1 h1 ρ1 σ1 → Same sl σ σ1 → Qd ρ1 h1 → Q σ1 H1
def tDG (K : PySem.W.Frag) (E : XKs) (sl : List Nat) (T : TDG) : TG := fun v σ H Q => ∃ d ρ h Qd Ed, Rep K H h d v ∧ RelE K H h ρ σ ∧ HRel K H h ∧ T d ρ h Qd Ed ∧ ClG K sl h H σ Qd Q ∧ Ed = fun _ _ => False
def tDGs (K : PySem.W.Frag) (E : XKs) (sl : List Nat) (T : TDGs) : TGs := fun vs σ H Q => ∃ ds ρ h Qd Ed, Reps K H h ds vs ∧ RelE K H h ρ σ ∧ HRel K H h ∧ T ds ρ h Qd Ed ∧ ClG K sl h H σ Qd Q ∧ Ed = fun _ _ => False
theorem _root_.L2.PG.weak {X : Cx} {e : Expr} {t t' : TG} (p : PG X e t) (w : ∀ v σ H Q, t' v σ H Q → t v σ H Q) : PG X e t' := ⟨fun pins s σ H v u Q I r h => p.run pins s σ H v u Q I r (w _ _ _ _ h)⟩
theorem _root_.L2.PGs.weak {X : Cx} {e : List Expr} {t t' : TGs} (p : PGs X e t) (w : ∀ v σ H Q, t' v σ H Q → t v σ H Q) : PGs X e t' := ⟨fun pins s σ H v u Q I r h => p.run pins s σ H v u Q I r (w _ _ _ _ h)⟩
section
variable {C : Ctx} {G : Prg} {k : Nat} {E : XKs} {X : Cx} {a b e : Expr} {es : List Expr} {Ta Tb : TD} {Tg : TDG} {Tr : TDGs} {sl tl : List Nat} {pos p : Pos} {kk : Nat} {x : Str}
theorem dg_nm (ok : COk C G k E X) {i : Nat} (h : mSet C i x = true) : PG X (.Name x pos) (tDG X.K E [i] fun d ρ h Q _ => stK ρ i d fun ρ1 => Q ρ1 h) := by
  obtain ⟨h1, h2⟩ := and2 h
  obtain ⟨h3, h4⟩ := loc_of ok h2
  refine (pg_name (i := i) (by rw [ok.N]; exact ok.nd) (by rw [ok.N]; exact of_decide_eq_true h1) h3 h4).weak fun v σ H Q ⟨d, ρ, h, Qd, Ed, r, re, hr, t, c, cx⟩ => ?_
  dsimp only at t
  rw [stK_eq] at t
  exact c _ h _ H Frm.refl hr (re.st r i) ⟨by simp, fun j q => List.getElem?_set_ne fun z => q (by rw [z]; exact List.mem_cons_self)⟩ t
theorem dgs_nil : PGs X [] (tDGs X.K E [] fun ds ρ h Q _ => match ds with
    | [] => Q ρ h
    | _ => False) := pgs_nil.weak fun v σ H Q ⟨ds, ρ, h, Qd, Ed, r, re, hr, t, c, cx⟩ => by
  cases ds with
  | nil => cases r; exact ⟨rfl, c ρ h σ H Frm.refl hr re Same.refl t⟩
  | cons => exact t.elim
theorem noStar_asg {env : PySem.Env} (h : noStar (a :: es) = true) : assignEach (a :: es) env = (false, assign a env) :: assignEach es env := by
  cases a <;> first | rfl | cases h
theorem dgs_cons (ha : PG X a (tDG X.K E sl Tg)) (hr : PGs X es (tDGs X.K E tl Tr)) (hs : noStar (a :: es) = true) : PGs X (a :: es) (tDGs X.K E (sl ++ tl) fun ds ρ h Q Xd => match ds with
    | d :: ds => Tg d ρ h (fun ρ1 h1 => Tr ds ρ1 h1 Q Xd) Xd
    | [] => False) :=
  (pgs_cons ha hr (by rw [noStar_asg hs]; rfl)).weak fun v σ H Q ⟨ds, ρ, h, Qd, Ed, r, re, hr, t, c, cx⟩ => by
    cases r with
    | nil => exact t.elim
    | @cons d ds v vs r rr =>
      refine ⟨_, _, rfl, d, ρ, h, _, Ed, r, re, hr, t, fun ρ1 h1 σ1 H1 f1 hr1 re1 s1 q1 => ?_, cx⟩
      refine ⟨ds, ρ1, h1, Qd, Ed, rr.frm f1, re1, hr1, q1, fun ρ2 h2 σ2 H2 f2 hr2 re2 s2 q2 => ?_, cx⟩
      exact c ρ2 h2 σ2 H2 (f1.trans f2) hr2 re2 (s1.trans s2) q2
theorem asg_len {env : PySem.Env} : ∀ {es : List Expr}, noStar es = true → (assignEach es env).length = es.length ∧ (assignEach es env).findIdx? (·.1) = none
  | [], _ => ⟨rfl, rfl⟩
  | e :: r, h => by
    obtain ⟨h1, h2⟩ := asg_len (env := env) (noStar_cons h).1
    rw [noStar_asg h]
    refine ⟨by rw [List.length_cons, List.length_cons, h1], ?_⟩
    rw [List.findIdx?_cons]
    show (if false = true then _ else _) = _
    rw [if_neg Bool.false_ne_true, h2]; rfl
theorem dg_tp {ts : List Expr} {n : Nat} (ok : COk C G k E X) (h : PGs X ts (tDGs X.K E sl Tr)) (hs : noStar ts = true) (hn : ts.length = n) : PG X (.Tuple ts kk pos) (tDG X.K E sl fun d ρ h Q Xd => match d with
    | .tup ds => ds.length = n ∧ Tr ds ρ h Q Xd
    | _ => False) :=
  (pg_tup ok.calm h (n := n) (by rw [(asg_len hs).1, hn]) (asg_len hs).2).weak fun v σ H Q ⟨d, ρ, h, Qd, Ed, r, re, hr, t, c, cx⟩ => by
    cases d with
    | tup ds =>
      obtain ⟨a, vs, rfl, sq, rs⟩ := r.sqT
      exact ⟨a, vs, rfl, sq, by rw [← rs.length]; exact t.1, ds, ρ, h, Qd, Ed, rs, re, hr, t.2, c, cx⟩
    | _ => exact t.elim
/-- a store into a list that may be changed -/
theorem setR_ok {K : PySem.W.Frag} {H : Hp} {h : Hd} {o i d : D} {u w v : V} {Qd : Hd → Prop} {Q : Hp → Prop} (hr : HRel K H h) (ro : Rep K H h o u) (ri : Rep K H h i w) (rd : Rep K H h d v) (q : setR o i d h Qd) (c : ∀ h1 H1, Frm h H h1 H1 → HRel K H1 h1 → Qd h1 → Q H1) : rSetL u w v H Q := by
  unfold setR at q
  split at q
  · rename_i a kx
    cases ro; cases ri
    split at q
    · rename_i ds e
      split at q
      · rename_i j e2
        obtain ⟨vs, e3, rs⟩ := hr a _ e
        refine ⟨a, vs, kx, j, rfl, rfl, e3, by rw [← rs.length]; exact e2, ?_⟩
        have f := Frm.put (H := H) (o := HO.lst (vs.set j v)) (d := D.lst (ds.set j d)) e (fun z => nomatch z)
        exact c _ _ f (hr.put e (fun z => nomatch z) ⟨_, upd_same, (rs.set j rd).frm f⟩) q
      · exact q.elim
    · exact q.elim
  · exact q.elim
theorem dg_sb (ha : PE X a (tD X.K E Ta)) (hb : PE X b (tD X.K E Tb)) (hs : isSlice b = false) : PG X (.Subscript a b pos) (tDG X.K E [] fun d ρ h Q _ => Ta ρ h (fun o h1 => Tb ρ h1 (fun kx h2 => setR o kx d h2 (fun h3 => Q ρ h3)) (fun _ _ => False)) (fun _ _ => False)) :=
  (pg_sub ha hb set_list (by intro v; cases b <;> first | rfl | (cases hs; done))).weak fun v σ H Q ⟨d, ρ, h, Qd, Ed, r, re, hr, t, c, cx⟩ => by
    refine ⟨ρ, h, _, fun _ _ => False, re, hr, t, fun d1 h1 v1 H1 f1 hr1 r1 q1 => ?_, fun _ _ _ _ _ _ _ _ z => z.elim⟩
    refine ⟨ρ, h1, _, fun _ _ => False, re.frm f1, hr1, q1, fun d2 h2 v2 H2 f2 hr2 r2 q2 => ?_, fun _ _ _ _ _ _ _ _ z => z.elim⟩
    refine setR_ok hr2 (r1.frm f2) r2 ((r.frm f1).frm f2) q2 fun h3 H3 f3 hr3 q3 => ?_
    have f := f1.trans (f2.trans f3)
    exact c ρ h3 σ H3 f hr3 (re.frm f) Same.refl q3
end

/-! ### comprehensions -/
def NoX : XKs := fun _ _ _ _ => False
abbrev Ctx.blk (C : Ctx) (scope : Scope) : Ctx := { C with sc := relS scope C.sc, fnc := fun x => scope.names.lookup x == some .cell }
theorem COk.blk {C : Ctx} {G : Prg} {k : Nat} {E : XKs} {X : Cx} (ok : COk C G k E X) {scope : Scope} (hk : scope.kind = .function) (s : Shared) (H : Hp) (A : Addr) (cl : List (Str × Addr)) (fp : List Addr) :
    COk (C.blk scope) G k NoX (X.blk s H scope (compEnvC scope cl A X.env) fp) where
  N := ok.N
  nd := ok.nd
  sc := by show relS scope X.env.scope = relS scope C.sc; rw [ok.sc]
  kind := hk
  fnc := rfl
  calm := ok.calm
  room := ok.room
  free := ok.free
  cns := ok.cns
  fns := fun f i e => ⟨⟨(ok.fns f i e).1.ok⟩, (ok.fns f i e).2⟩
  fl := ok.fl
  cls := ok.cls
  oc := ok.oc
  ock := ok.ock
  nms := ok.nms
  exs := ok.exs
  sub := ok.sub
  subB := ok.subB
  xfl := ok.xfl
  px := fun _ _ _ _ _ _ _ ⟨_, _, _, _, _, _, _, _, _, _, _, _, h⟩ => h.elim
  po := PassesOwn.never
theorem ClX.no {K : PySem.W.Frag} {h : Hd} {H : Hp} {E : XK} : ClX K h H (fun _ _ => False) E := fun _ _ _ _ _ _ _ _ q => q.elim
section
variable {C : Ctx} {G : Prg} {k : Nat} {E : XKs} {X : Cx} {elt tg iter : Expr} {ifs : List Expr} {scope : Scope} {own : List (Str × Nat)} {sl : List Nat} {WI : TDs} {Tg : TDG} {Tc : TDt} {Te : TD} {pos : Pos} {m : Bool}
/-- what a comprehension asks, as the hand layer asks it -/
theorem comp_weak (hsl : ∀ i ∈ sl, i ∈ own.map (·.2)) (σ : L2.St) (H : Hp) (Q : VK)
    (x : tD X.K E (fun ρ h Q Xd => WI ρ h (fun ds h1 => ∀ D, h1 D = none → loopC Tg Tc Te (wipeE ρ (own.map (·.2))) (fun ys h2 => endC m D ys h2 Q) ds [] (hupd h1 D .non)) Xd) σ H Q) :
    tLc (iD X.K E WI) (tDG X.K NoX sl Tg) (tDt X.K NoX Tc) (tD X.K NoX Te) (own.map (·.2)) σ H Q := by
  obtain ⟨ρ, h, Qd, Ed, re, hr, t, c, cx⟩ := x
  refine ⟨ρ, h, _, Ed, re, hr, t, fun ds h1 H1 J f1 hr1 wk q D hn => ?_, cx⟩
  have hnD := hr1.gone hn
  have q := q D hnD
  generalize hvs : own.map (·.2) = vs at *
  let P : Nat → Hp → Prop := fun i H2 => ∃ h2 acc us, Frm h1 H1 h2 H2 ∧ HRel X.K H2 h2 ∧ h2 D = some .non ∧ H2 D = some (.lst us) ∧ Reps X.K H2 h2 acc us ∧
    loopC Tg Tc Te (wipeE ρ vs) (fun ys h2 => endC m D ys h2 Qd) (ds.drop i) acc h2
  refine ⟨fun i n H2 => n = ds.length - i ∧ i ≤ ds.length ∧ P i H2, ⟨ds.length, rfl, Nat.zero_le _, hupd h1 D .non, [], [], Frm.new hn hnD, hr1.new hn ⟨_, upd_same⟩, hupd_same, upd_same, .nil, q⟩, ?_⟩
  rintro i n H2 ⟨rfl, hi, h2, acc, us, f2, hr2, hD, HD, ra, q2⟩
  have wk2 := wk h2 H2 f2 hr2 i
  by_cases hlt : i < ds.length
  · have e1 : ds.drop i = ds[i] :: ds.drop (i + 1) := List.drop_eq_getElem_cons hlt
    rw [e1] at q2
    obtain ⟨go, yl⟩ := wk2.1 ds[i] (List.getElem?_eq_getElem hlt)
    refine .inr ⟨go, fun H' => P (i + 1) H', fun H' p => ⟨ds.length - (i + 1), by omega, rfl, hlt, p⟩, fun x H' y => ?_⟩
    obtain ⟨f3, hr3, r3⟩ := yl x H' y
    have re3 := (re.frm (f1.trans (f2.trans f3))).wipe vs
    have q2 : Tg ds[i] (wipeE ρ vs) h2 (fun ρ1 h1 => Tc ρ1 h1 (fun b h2 => if b = true then Te ρ1 h2 (fun y h3 => acc.length < sizeLine ∧ loopC Tg Tc Te (wipeE ρ vs) _ (ds.drop (i + 1)) (acc ++ [y]) h3) (fun _ _ => False) else loopC Tg Tc Te (wipeE ρ vs) _ (ds.drop (i + 1)) acc h2) (fun _ _ => False)) (fun _ _ => False) := q2
    refine ⟨ds[i], _, h2, _, _, r3, re3, hr3, q2, fun ρ4 h4 σ4 H4 f4 hr4 re4 s4 q4 => ?_, rfl⟩
    refine ⟨(wipe_same hsl s4).trans wipe_wipe, ρ4, h4, _, _, re4, hr4, q4, fun b h5 H5 f5 hr5 q5 => ?_, ClX.no⟩
    have f35 := f3.trans (f4.trans f5)
    have hid := f35.hid D hD
    cases b with
    | false =>
      rw [if_neg Bool.false_ne_true] at q5
      show P (i + 1) H5
      exact ⟨h5, acc, us, f2.trans f35, hr5, hid.1, hid.2 _ HD, ra.frm f35, q5⟩
    | true =>
      rw [if_pos rfl] at q5
      show tD X.K NoX Te σ4 H5 fun y H4 => ∃ acc, H4 D = some (.lst acc) ∧ acc.length < sizeLine ∧ P (i + 1) (upd H4 D (.lst (acc ++ [y])))
      refine ⟨ρ4, h5, _, _, re4.frm f5, hr5, q5, fun d6 h6 v6 H6 f6 hr6 r6 q6 => ?_, ClX.no⟩
      have f36 := f35.trans f6
      have hid := f36.hid D hD
      have r := (ra.frm f36).append (.cons r6 .nil)
      have l := (ra.frm f36).length
      have kp : Kp h6 H6 h6 (upd H6 D (.lst (us ++ [v6]))) := Kp.putN hid.1
      refine ⟨us, hid.2 _ HD, by rw [← l]; exact q6.1, h6, acc ++ [d6], us ++ [v6], ⟨⟨fun a o e1 e2 => ?_⟩, fun a e1 => ?_⟩, hr6.putN hid.1, hid.1, upd_same, r.kp kp, q6.2⟩
      · obtain ⟨z1, z2⟩ := (f2.trans f36).keep a o e1 e2
        exact kp.keep a o z1 z2
      · obtain ⟨z1, z2⟩ := (f2.trans f36).hid a e1
        have ne : a ≠ D := fun z => by rw [z, hnD] at e1; cases e1
        exact ⟨z1, fun o q => by rw [upd_ne ne]; exact z2 o q⟩
  · have e : i = ds.length := by omega
    subst e
    rw [List.drop_length] at q2
    refine .inl ⟨wk2.2 rfl, ?_⟩
    have f := f1.trans f2
    have q2 : endC m D acc h2 Qd := q2
    have back : ∀ {h3 : Hd}, (∀ a, a ≠ D → h3 a = h2 a) → Frm h H h3 H2 := fun {h3} e => by
      refine ⟨⟨fun a o e1 e2 => ?_⟩, fun a e1 => ?_⟩
      · obtain ⟨z1, z2⟩ := f1.keep a o e1 e2
        have ne : a ≠ D := fun z => by rw [z, hn] at z1; cases z1
        obtain ⟨z3, z4⟩ := f2.keep a o z1 z2
        exact ⟨z3, by rw [e a ne]; exact z4⟩
      · obtain ⟨z1, z2⟩ := f1.hid a e1
        have ne : a ≠ D := fun z => by rw [z, hnD] at z1; cases z1
        obtain ⟨z3, z4⟩ := f2.hid a z1
        exact ⟨by rw [e a ne]; exact z3, fun o q => z4 o (z2 o q)⟩
    cases m with
    | true =>
      exact c _ _ _ _ (back fun a ne => hupd_ne ne) (hr2.out hD (d := .lst acc) ⟨us, HD, ra.kp (Kp.out hD)⟩) (.ref D) q2
    | false =>
      exact c _ _ _ _ (back fun a ne => hdel_ne ne) hr2.del (.lst HD hdel_same (ra.kp Kp.del)) q2
/-- what stands after `in` in a comprehension -/
def plainIt : Expr → Bool
  | .Set .. => false
  | _ => true
theorem plainIt_eq {e : Expr} {env : PySem.Env} (h : plainIt e = true) : ∀ x, foldedSetIterable e env x = pure x := by
  intro x
  cases e <;> first | rfl | (cases h; done)
variable (ok : COk C G k E X) (hi : PI X tg iter (iD X.K E WI)) (hb : blkC C.N C.sc scope own = true)
  (hg : ∀ (s : Shared) (H : Hp) (A : Addr) (cl : List (Str × Addr)) (fp : List Addr), PG (X.blk s H scope (compEnvC scope cl A X.env) fp) tg (tDG X.K NoX sl Tg))
  (ht : ∀ (s : Shared) (H : Hp) (A : Addr) (cl : List (Str × Addr)) (fp : List Addr), PTs (X.blk s H scope (compEnvC scope cl A X.env) fp) ifs (tDt X.K NoX Tc))
  (he : ∀ (s : Shared) (H : Hp) (A : Addr) (cl : List (Str × Addr)) (fp : List Addr), PE (X.blk s H scope (compEnvC scope cl A X.env) fp) elt (tD X.K NoX Te))
  (hsl : ∀ i ∈ sl, i ∈ own.map (·.2)) (hp : plainIt iter = true)
include ok hi hb hg ht he hsl hp
theorem d_comp : PE X (.ListComp elt [⟨tg, iter, ifs, 0⟩] scope pos) (tD X.K E fun ρ h Q Xd => WI ρ h (fun ds h1 => ∀ D, h1 D = none → loopC Tg Tc Te (wipeE ρ (own.map (·.2))) (fun ys h2 => endC m D ys h2 Q) ds [] (hupd h1 D .non)) Xd) :=
  (pe_lc ok.calm (by rw [ok.N]; exact ok.nd) hi (by rw [ok.N, ok.sc]; exact blkOk_by hb) hg ht he (plainIt_eq hp)).weak fun σ H Q x => comp_weak hsl σ H Q x
end
end Y
namespace Y
open PySem PySem.Spec PyProof.Rows L2

/-! ### statements by data -/
structure ClN (K : PySem.W.Frag) (h : Hd) (H : Hp) (Nd : EndsD) (N : L2.Ends) : Prop where
  nx : ∀ ρ1 h1 σ1 H1, Frm h H h1 H1 → HRel K H1 h1 → RelE K H1 h1 ρ1 σ1 → Nd.nx ρ1 h1 → N.nx σ1 H1
  rt : Cl K h H Nd.rt N.rt
  bk : ∀ ρ1 h1 σ1 H1, Frm h H h1 H1 → HRel K H1 h1 → RelE K H1 h1 ρ1 σ1 → Nd.bk ρ1 h1 → N.bk σ1 H1
  ct : ∀ ρ1 h1 σ1 H1, Frm h H h1 H1 → HRel K H1 h1 → RelE K H1 h1 ρ1 σ1 → Nd.ct ρ1 h1 → N.ct σ1 H1
theorem ClN.frm {K : PySem.W.Frag} {h h1 : Hd} {H H1 : Hp} {Nd : EndsD} {N : L2.Ends} (c : ClN K h H Nd N) (f : Frm h H h1 H1) : ClN K h1 H1 Nd N :=
  ⟨fun ρ h σ H g => c.nx ρ h σ H (f.trans g), c.rt.frm f, fun ρ h σ H g => c.bk ρ h σ H (f.trans g), fun ρ h σ H g => c.ct ρ h σ H (f.trans g)⟩
/-- what is wanted of exceptions, whatever the names will hold -/
def ClXe (K : PySem.W.Frag) (h0 : Hd) (H0 : Hp) (Ed : QXe) (E : XKs) : Prop := ∀ ρ h1 σ H1, Frm h0 H0 h1 H1 → HRel K H1 h1 → RelE K H1 h1 ρ σ → ClX K h1 H1 (Ed ρ) (E σ)
theorem ClXe.frm {K : PySem.W.Frag} {h h1 : Hd} {H H1 : Hp} {Ed : QXe} {E : XKs} (c : ClXe K h H Ed E) (f : Frm h H h1 H1) : ClXe K h1 H1 Ed E := fun ρ h σ H g => c ρ h σ H (f.trans g)
theorem ClXe.now {K : PySem.W.Frag} {h : Hd} {H : Hp} {Ed : QXe} {E : XKs} {ρ : DEnv} {σ : L2.St} (c : ClXe K h H Ed E) (re : RelE K H h ρ σ) (hr : HRel K H h) : ClX K h H (Ed ρ) (E σ) := c ρ h σ H Frm.refl hr re
def tDS (K : PySem.W.Frag) (E : XKs) (T : TDS) : TS := fun N σ H => ∃ ρ h Nd Ed, RelE K H h ρ σ ∧ HRel K H h ∧ T ρ h Nd Ed ∧ ClN K h H Nd N ∧ ClXe K h H Ed E
/-- what is given up -/
theorem frz_ok {K : PySem.W.Frag} {H : Hp} {h : Hd} {d : D} {v : V} {Q : QD} (hr : HRel K H h) (r : Rep K H h d v) (q : frzR d h Q) : ∃ d' h', Q d' h' ∧ Frm h H h' H ∧ HRel K H h' ∧ Rep K H h' d' v := by
  cases d with
  | ref a =>
    cases r
    cases e : h a with
    | none => simp only [frzR, e] at q
    | some x =>
      cases x with
      | lst ds =>
        simp only [frzR, e] at q
        obtain ⟨vs, e1, rs⟩ := hr a _ e
        exact ⟨_, _, q, Frm.del (by rw [e]; exact fun z => nomatch z), hr.del, .lst e1 hdel_same (rs.kp Kp.del)⟩
      | ins C ns ds =>
        simp only [frzR, e] at q
        obtain ⟨dx, vs, e1, l, rs⟩ := hr a _ e
        exact ⟨_, _, q, Frm.del (by rw [e]; exact fun z => nomatch z), hr.del, .ins e1 hdel_same l (rs.kp Kp.del)⟩
      | dct ks ds =>
        simp only [frzR, e] at q
        obtain ⟨vs, e1, l, rs⟩ := hr a _ e
        exact ⟨_, _, q, Frm.del (by rw [e]; exact fun z => nomatch z), hr.del, .dct e1 hdel_same l (rs.kp Kp.del)⟩
      | _ => simp only [frzR, e] at q
  | _ => exact ⟨_, h, q, Frm.refl, hr, r⟩
theorem RelE.putD {K : PySem.W.Frag} {H : Hp} {h : Hd} {ρ : DEnv} {σ : L2.St} {d : D} {v : V} {i : Nat} (r : RelE K H h ρ σ) (e : σ[i]? = some (some v)) (q : Rep K H h d v) : RelE K H h (stE ρ i d) σ := by
  rw [stE_set]
  refine ⟨by simp [r.len], fun j x z => ?_⟩
  by_cases hj : i = j
  · subst hj
    by_cases hi : i < ρ.length
    · rw [List.getElem?_set_self hi] at z; cases z
      exact ⟨v, e, q⟩
    · rw [List.getElem?_eq_none (by simp; omega)] at z; cases z
  · rw [List.getElem?_set_ne hj] at z
    exact r.get j x z
/-! op= -/
theorem lstV_ok {K : PySem.W.Frag} {H : Hp} {h : Hd} {d : D} {v : V} {ds : List D} (hr : HRel K H h) (r : Rep K H h d v) (e : lstV h d = some ds) : ∃ a vs, v = .ref a ∧ H a = some (.lst vs) ∧ Reps K H h ds vs := by
  cases d with
  | lst es =>
    cases e
    cases r with
    | lst e1 n r => exact ⟨_, _, rfl, e1, r⟩
  | ref a =>
    cases r
    unfold lstV at e
    dsimp only at e
    split at e
    · rename_i es e2
      cases e
      obtain ⟨vs, e1, rs⟩ := hr a _ e2
      exact ⟨a, vs, rfl, e1, rs⟩
    · cases e
  | _ => cases e
def opO : Op2 → Operator
  | .add => .Add | .sub => .Sub | .mul => .Mult | .fdiv => .FloorDiv | .mod => .Mod | .pow => .Pow | .addM => .Add
theorem do_iop {X : Cx} (o : Op2) : PIp X (opO o) (lift2 X.K (iopR o)) := by
  intro pins s σ H x0 y0 v u Q I ru rv hx
  obtain ⟨h, x, y, Qd, hr, rx, ry, q, c⟩ := hx
  cases o with
  | add =>
    cases x with
    | int i =>
      cases y with
      | int j =>
        cases rx; cases ry
        exact iop_add pins s σ H _ _ _ _ Q I ru rv ⟨i, j, rfl, rfl, c.here hr (.int _) q⟩
      | _ => exact q.elim
    | str i =>
      cases y with
      | str j =>
        cases rx; cases ry
        exact iop_add_str pins s σ H _ _ _ _ Q I ru rv ⟨i, j, rfl, rfl, q.1, c.here hr (.str _) q.2⟩
      | _ => exact q.elim
    | ref a =>
      have q : (match h a with
        | some (.lst ds) => match lstV h y with
          | some es => ds.length + es.length ≤ sizeLine ∧ Qd (.ref a) (hupd h a (.lst (ds ++ es)))
          | none => False
        | _ => False) := by
        cases y <;> exact q
      cases rx
      split at q
      · rename_i ds e
        split at q
        · rename_i es e2
          obtain ⟨vs, e1, rs⟩ := hr a _ e
          obtain ⟨b, us, rfl, e3, rs2⟩ := lstV_ok hr ry e2
          refine iop_ext pins s σ H _ _ _ _ Q I ru rv ⟨a, b, vs, us, rfl, rfl, e1, e3, by rw [← rs.length, ← rs2.length]; exact q.1, ?_⟩
          have f := Frm.put (H := H) (o := HO.lst (vs ++ us)) (d := D.lst (ds ++ es)) e (fun z => nomatch z)
          exact c _ _ _ _ f (hr.put e (fun z => nomatch z) ⟨_, upd_same, (rs.append rs2).frm f⟩) (.ref a) q.2
        · exact q.elim
      · exact q.elim
    | _ => exact q.elim
  | sub =>
    cases x with
    | int i =>
      cases y with
      | int j =>
        cases rx; cases ry
        exact iop_sub pins s σ H _ _ _ _ Q I ru rv ⟨i, j, rfl, rfl, c.here hr (.int _) q⟩
      | _ => exact q.elim
    | _ => exact q.elim
  | mul =>
    cases x with
    | int i =>
      cases y with
      | int j =>
        cases rx; cases ry
        exact iop_mul pins s σ H _ _ _ _ Q I ru rv ⟨i, j, rfl, rfl, q.1, c.here hr (.int _) q.2⟩
      | _ => exact q.elim
    | _ => exact q.elim
  | _ => exact q.elim
theorem insOf_ok {K : PySem.W.Frag} {H : Hp} {h : Hd} {d : D} {v : V} {c : Str} {ns : List Str} {ds : List D} (hr : HRel K H h) (r : Rep K H h d v) (e : insOf h d = some (c, ns, ds)) : ∃ a dx vs, v = .ref a ∧ H a = some (.ins (He.ga K c) dx (ns.zip vs)) ∧ ns.length = vs.length ∧ Reps K H h ds vs := by
  cases d with
  | ins C' ns' ds' =>
    cases e
    cases r with
    | ins e1 n l r => exact ⟨_, _, _, rfl, e1, l, r⟩
  | ref a =>
    cases r
    unfold insOf at e
    dsimp only at e
    split at e
    · rename_i C' ns' ds' q
      cases e
      obtain ⟨dx, vs, e1, l, rs⟩ := hr a _ q
      exact ⟨a, dx, vs, rfl, e1, l, rs⟩
    · cases e
  | _ => cases e
theorem posF_ok {K : PySem.W.Frag} {H : Hp} {h : Hd} {f : Str} : ∀ {ns : List Str} {j : Nat} {ds : List D} {vs : List V} {x : D}, posF f ns = some j → nth ds j = some x → ns.length = vs.length → Reps K H h ds vs → ∃ v, (ns.zip vs).lookup f = some v ∧ Rep K H h x v
  | [], _, _, _, _, e, _, _, _ => by cases e
  | n :: ns, j, ds, vs, x, e, e2, l, r => by
    cases vs with
    | nil => cases l
    | cons v vs =>
      cases r with
      | @cons d ds _ _ r rs =>
        rw [List.zip_cons_cons, List.lookup_cons]
        unfold posF at e
        split at e
        · rename_i q
          cases e
          cases e2
          subst q
          exact ⟨v, by simp, r⟩
        · rename_i q
          cases p : posF f ns with
          | none => rw [p] at e; cases e
          | some i =>
            rw [p] at e
            cases e
            obtain ⟨u, h1, h2⟩ := posF_ok p e2 (by simpa using l) rs
            have : (f == n) = false := by simpa using fun z : f = n => q z.symm
            rw [this]
            exact ⟨u, h1, h2⟩
theorem putF_zip {K : PySem.W.Frag} {H : Hp} {h : Hd} {f : Str} {d : D} {v : V} (q : Rep K H h d v) : ∀ {ns : List Str} {ds : List D} {vs : List V}, ns.length = vs.length → Reps K H h ds vs → ∃ us, (putN f ns).zip us = putF f v (ns.zip vs) ∧ (putN f ns).length = us.length ∧ Reps K H h (putDs f d ns ds) us
  | [], ds, vs, l, r => by
    have : vs = [] := List.eq_nil_of_length_eq_zero l.symm
    subst this
    exact ⟨[v], rfl, rfl, .cons q .nil⟩
  | n :: ns, ds, [], l, r => by cases l
  | n :: ns, _, v0 :: vs, l, .cons (d := x) (ds := ds) r rs => by
    by_cases e : n = f
    · refine ⟨v :: vs, ?_, ?_, ?_⟩
      · simp only [putN, if_pos e, List.zip_cons_cons, putF]
      · simp only [putN, if_pos e]; simpa using l
      · simp only [putDs, if_pos e]; exact .cons q rs
    · obtain ⟨us, e1, e2, e3⟩ := putF_zip (f := f) q (ns := ns) (by simpa using l) rs
      refine ⟨v0 :: us, ?_, ?_, ?_⟩
      · simp only [putN, if_neg e, List.zip_cons_cons, putF, e1]
      · simp only [putN, if_neg e, List.length_cons, e2]
      · simp only [putDs, if_neg e]; exact .cons r e3
/-- a[i] of a list that may be changed -/
theorem get_lst {X : Cx} : PGet X (lift2 X.K getR) := by
  intro pins s σ H o i ov iv Q I ro ri hx
  obtain ⟨h, x, y, Qd, hr, rx, ry, q, c⟩ := hx
  unfold getR at q
  split at q
  · rename_i a kx
    cases rx; cases ry; cases ro
    obtain ⟨t, rfl⟩ := ri
    split at q
    · rename_i ds e
      split at q
      · rename_i d e2
        obtain ⟨vs, e3, rs⟩ := hr a _ e
        obtain ⟨v, e4, rd⟩ := atI_rep rs e2
        obtain ⟨its, r, pl, hz⟩ := I.list (.inl (.inl e3))
        obtain ⟨j, h1, h2, h3, h4, h5⟩ := atI_get e4
        obtain ⟨w, ew, rw'⟩ := r.get h2
        have hl := r.length
        have hn := line63
        have fin : EP X pins σ Q w s := ⟨v, H, I, rw', c.here hr rd q⟩
        by_cases h0 : 0 ≤ kx
        · have hj : kx.toNat = j := by
            rw [seqIndex_of h0 h5] at h1
            exact Option.some.inj h1
          exact wpAny_getItem_list pl.isList h0 (by omega) (by rw [hj]; simpa using ew) fin
        · have hj : (kx + (its.toArray.size : Int)).toNat = j := by
            rw [seqIndex_neg (by omega) h4] at h1
            rw [List.size_toArray, ← hl]
            exact Option.some.inj h1
          exact wpAny_getItem_list_neg pl.isList (by omega) (by rw [List.size_toArray] <;> omega) (by omega) (by rw [hj]; simpa using ew) fin
      · exact q.elim
    · exact q.elim
  · exact q.elim
section
variable {C : Ctx} {G : Prg} {k : Nat} {E : XKs} {X : Cx} {a b e tg iter : Expr} {es : List Expr} {st : Stmt} {sts sa sb : List Stmt} {Ta Tb Te : TD} {Ts : TDs} {Tt : TDt} {Tg : TDG} {Tr : TDGs} {U V : TDS} {WI : TDs} {sl tl : List Nat} {pos p : Pos} {kk : Nat} {x : Str}
theorem dss_nil : PSs X [] (tDS X.K E fun ρ h N _ => N.nx ρ h) := pss_nil.weak fun N σ H ⟨ρ, h, Nd, Ed, re, hr, t, c, cx⟩ => c.nx ρ h σ H Frm.refl hr re t
theorem dss_cons (h1 : PS X st (tDS X.K E U)) (h2 : PSs X sts (tDS X.K E V)) : PSs X (st :: sts) (tDS X.K E fun ρ h N Xd => U ρ h { N with nx := fun ρ1 h1 => V ρ1 h1 N Xd } Xd) :=
  (pss_cons h1 h2).weak fun N σ H ⟨ρ, h, Nd, Ed, re, hr, t, c, cx⟩ =>
    ⟨ρ, h, _, Ed, re, hr, t, ⟨fun ρ1 h1 σ1 H1 f1 hr1 re1 q1 => ⟨ρ1, h1, Nd, Ed, re1, hr1, q1, c.frm f1, cx.frm f1⟩, c.rt, c.bk, c.ct⟩, cx⟩
theorem dss_never {V : TDS} (hV : ∀ ρ h N Xd, V ρ h N Xd → False) : PSs X sts (tDS X.K E V) := pss_never.weak fun N σ H ⟨ρ, h, Nd, Ed, re, hr, t, c, cx⟩ => (hV _ _ _ _ t).elim
theorem ds_never : PS X st (tDS X.K E fun _ _ _ _ => False) := ps_never.weak fun N σ H ⟨ρ, h, Nd, Ed, re, hr, t, c, cx⟩ => t.elim
/-- what may be changed is given up: no statement of the text -/
theorem dss_frz {i : Nat} (h : PSs X sts (tDS X.K E V)) : PSs X sts (tDS X.K E fun ρ h N Xd => match lk ρ i with
    | some d => frzR d h fun d h1 => stK ρ i d fun ρ1 => V ρ1 h1 N Xd
    | _ => False) := h.weak fun N σ H ⟨ρ, h, Nd, Ed, re, hr, t, c, cx⟩ => by
  dsimp only at t
  split at t
  · rename_i d e
    obtain ⟨v, e1, r⟩ := re.get i d (lk_get e)
    obtain ⟨d', h', q, f, hr', r'⟩ := frz_ok hr r t
    rw [stK_eq] at q
    exact ⟨_, h', Nd, Ed, (re.frm f).putD e1 r', hr', q, c.frm f, cx.frm f⟩
  · exact t.elim
theorem de_frz (ha : PE X a (tD X.K E Ta)) : PE X a (tD X.K E fun ρ h Q Xd => Ta ρ h (fun x h1 => frzR x h1 Q) Xd) := ha.weak fun σ H Q ⟨ρ, h, Qd, Ed, re, hr, t, c, cx⟩ =>
  ⟨ρ, h, _, Ed, re, hr, t, fun d1 h1 v1 H1 f1 hr1 r1 q1 => by
    obtain ⟨d', h', q, f, hr', r'⟩ := frz_ok hr1 r1 q1
    exact c _ _ _ _ (f1.trans f) hr' r' q, cx⟩
theorem d_fld (ok : COk C G k E X) {j : Nat} {f : Str} (ha : PE X a (tD X.K E Ta)) (hb : baseOk a = true) : PE X (.Attribute a f pos) (tD X.K E fun ρ h Q Xd => Ta ρ h (fun x h1 => fldR G.fl f j x h1 Q) Xd) :=
  (pe_fld ha (baseOk_eq hb)).weak fun σ H Q ⟨ρ, h, Qd, Ed, re, hr, t, c, cx⟩ => ⟨ρ, h, _, Ed, re, hr, t, fun d1 h1 v1 H1 f1 hr1 r1 q1 => by
    dsimp only at q1
    unfold fldR at q1
    split at q1
    · rename_i c' ns ds e
      obtain ⟨q1, q2, q3⟩ := q1
      obtain ⟨a, dx, vs, rfl, e1, l, rs⟩ := insOf_ok hr1 r1 e
      split at q3
      · rename_i x ex
        obtain ⟨v, e2, rx⟩ := posF_ok q2 ex l rs
        obtain ⟨k1, k2⟩ := ok.fl _ _ q1
        exact ⟨a, _, dx, _, v, rfl, e1, k1, k2, e2, (c.frm f1).here hr1 rx q3⟩
      · exact q3.elim
    · exact q1.elim, cx⟩
theorem ds_fldS (ok : COk C G k E X) {f : Str} {pos' : Pos} (ha : PE X a (tD X.K E Ta)) (he : PE X e (tD X.K E Te)) (hv : okVal e = true) : PS X (.Assign [.Attribute a f pos'] e pos) (tDS X.K E fun ρ h N Xd => Te ρ h (fun d h1 => Ta ρ h1 (fun o h2 => putR G.fl f o d h2 fun h3 => N.nx ρ h3) (Xd ρ)) (Xd ρ)) :=
  (ps_fld ha he (by rw [swc_ok ok.sc ok.kind hv]; unfold swc; cases e <;> rfl)).weak fun N σ H ⟨ρ, h, Nd, Ed, re, hr, t, c, cx⟩ => by
    refine ⟨ρ, h, _, Ed ρ, re, hr, t, fun d1 h1 v1 H1 f1 hr1 r1 q1 => ?_, cx.now re hr⟩
    refine ⟨ρ, h1, _, Ed ρ, re.frm f1, hr1, q1, fun d2 h2 v2 H2 f2 hr2 r2 q2 => ?_, (cx.frm f1).now (re.frm f1) hr1⟩
    dsimp only at q2
    unfold putR at q2
    split at q2
    · rename_i a
      cases r2
      split at q2
      · rename_i c' ns ds e
        obtain ⟨q1, q3, q4⟩ := q2
        obtain ⟨dx, vs, e1, l, rs⟩ := hr2 a _ e
        obtain ⟨k1, k2⟩ := ok.fl _ _ q1
        obtain ⟨us, z1, z2, z3⟩ := putF_zip (f := f) (r1.frm f2) l rs
        have fr := Frm.put (H := H2) (o := HO.ins (He.ga X.K c') dx (putF f v1 (ns.zip vs))) (d := D.ins c' (putN f ns) (putDs f d1 ns ds)) e (fun z => nomatch z)
        refine ⟨a, _, dx, _, rfl, e1, k1, k2, by rw [List.length_zip]; omega, ?_⟩
        have ff := (f1.trans f2).trans fr
        refine c.nx ρ _ σ _ ff (hr2.put e (fun z => nomatch z) ⟨dx, us, ?_, z2, z3.frm fr⟩) (re.frm ff) q4
        rw [upd_same, z1]
      · exact q2.elim
    · exact q2.elim
theorem ds_pass : PS X (.Pass pos) (tDS X.K E fun ρ h N _ => N.nx ρ h) := ps_pass.weak fun N σ H ⟨ρ, h, Nd, Ed, re, hr, t, c, cx⟩ => c.nx ρ h σ H Frm.refl hr re t
theorem ds_brk : PS X (.Break pos) (tDS X.K E fun ρ h N _ => N.bk ρ h) := ps_break.weak fun N σ H ⟨ρ, h, Nd, Ed, re, hr, t, c, cx⟩ => c.bk ρ h σ H Frm.refl hr re t
theorem ds_cnt : PS X (.Continue pos) (tDS X.K E fun ρ h N _ => N.ct ρ h) := ps_continue.weak fun N σ H ⟨ρ, h, Nd, Ed, re, hr, t, c, cx⟩ => c.ct ρ h σ H Frm.refl hr re t
theorem ds_ret (he : PE X e (tD X.K E Te)) : PS X (.Return (some e) pos) (tDS X.K E fun ρ h N Xd => Te ρ h N.rt (Xd ρ)) := (ps_ret he).weak fun N σ H ⟨ρ, h, Nd, Ed, re, hr, t, c, cx⟩ => ⟨ρ, h, Nd.rt, Ed ρ, re, hr, t, c.rt, cx.now re hr⟩
theorem ds_retN : PS X (.Return none pos) (tDS X.K E fun ρ h N Xd => N.rt .non h) := ps_retN.weak fun N σ H ⟨ρ, h, Nd, Ed, re, hr, t, c, cx⟩ => c.rt.here hr .non t
def isCall : Expr → Bool
  | .Call _ _ _ _ => true
  | _ => false
theorem ds_expr (he : PE X e (tD X.K E Te)) (hc : isCall e = true) : PS X (.Expr e pos) (tDS X.K E fun ρ h N Xd => Te ρ h (fun _ h1 => N.nx ρ h1) (Xd ρ)) :=
  (ps_expr he (by cases e <;> first | rfl | (cases hc; done))).weak fun N σ H ⟨ρ, h, Nd, Ed, re, hr, t, c, cx⟩ => ⟨ρ, h, _, Ed ρ, re, hr, t, fun d1 h1 v1 H1 f1 hr1 r1 q1 => c.nx ρ h1 σ H1 f1 hr1 (re.frm f1) q1, cx.now re hr⟩
theorem ds_if (hc : PT X e (tDt X.K E Tt)) (ha : PSs X sa (tDS X.K E U)) (hb : PSs X sb (tDS X.K E V)) : PS X (.If e sa sb pos) (tDS X.K E fun ρ h N Xd => Tt ρ h (fun k h1 => if k = true then U ρ h1 N Xd else V ρ h1 N Xd) (Xd ρ)) :=
  (ps_if hc ha hb).weak fun N σ H ⟨ρ, h, Nd, Ed, re, hr, t, c, cx⟩ => ⟨ρ, h, _, Ed ρ, re, hr, t, fun k h1 H1 f1 hr1 q1 => by
    cases k with
    | true => rw [if_pos rfl] at q1 ⊢; exact ⟨ρ, h1, Nd, Ed, re.frm f1, hr1, q1, c.frm f1, cx.frm f1⟩
    | false => rw [if_neg Bool.false_ne_true] at q1 ⊢; exact ⟨ρ, h1, Nd, Ed, re.frm f1, hr1, q1, c.frm f1, cx.frm f1⟩, cx.now re hr⟩
theorem asg_weak (N : L2.Ends) (σ : L2.St) (H : Hp) (x : tDS X.K E (fun ρ h N Xd => Te ρ h (fun d h1 => Tg d ρ h1 N.nx (fun _ _ => False)) (Xd ρ)) N σ H) : tAsg (tD X.K E Te) (tDG X.K E sl Tg) N σ H := by
  obtain ⟨ρ, h, Nd, Ed, re, hr, t, c, cx⟩ := x
  refine ⟨ρ, h, _, Ed ρ, re, hr, t, fun d1 h1 v1 H1 f1 hr1 r1 q1 => ?_, cx.now re hr⟩
  exact ⟨d1, ρ, h1, Nd.nx, _, r1, re.frm f1, hr1, q1, fun ρ2 h2 σ2 H2 f2 hr2 re2 s2 q2 => c.nx ρ2 h2 σ2 H2 (f1.trans f2) hr2 re2 q2, rfl⟩
theorem ds_asg (ok : COk C G k E X) (he : PE X e (tD X.K E Te)) (hg : PG X tg (tDG X.K E sl Tg)) (h1 : okVal e = true) (h2 : swc C.sc e tg = false) (h3 : swp C.sc tg e = some none) (h4 : noStar [tg] = true) :
    PS X (.Assign [tg] e pos) (tDS X.K E fun ρ h N Xd => Te ρ h (fun d h1 => Tg d ρ h1 N.nx (fun _ _ => False)) (Xd ρ)) :=
  (ps_asg he hg (by show swapsWith e (some tg) pos.line X.env = pure false; rw [swc_ok ok.sc ok.kind h1, h2]) (swp_ok ok.sc ok.kind h3) (by rw [noStar_asg h4]; rfl)).weak asg_weak
theorem ds_while (ok : COk C G k E X) (hc : PT X e (tDt X.K E Tt)) (hb : PSs X sb (tDS X.K E V)) : PS X (.While e sb [] pos) (tDS X.K E fun ρ h N Xd => loopW Tt V ρ h N Xd) :=
  (ps_while ok.po hc hb).weak fun N σ H ⟨ρ, h, Nd, Ed, re, hr, t, c, cx⟩ => by
    obtain ⟨W, ⟨m0, w0⟩, turn⟩ := t
    refine ⟨fun m σ1 H1 => ∃ ρ1 h1, Frm h H h1 H1 ∧ HRel X.K H1 h1 ∧ RelE X.K H1 h1 ρ1 σ1 ∧ W m ρ1 h1, ⟨m0, ρ, h, Frm.refl, hr, re, w0⟩, ?_⟩
    rintro m σ1 H1 ⟨ρ1, h1, f1, hr1, re1, w1⟩
    refine ⟨ρ1, h1, _, Ed ρ1, re1, hr1, turn m ρ1 h1 w1, fun k h2 H2 f2 hr2 q2 => ?_, (cx.frm f1).now re1 hr1⟩
    cases k with
    | true =>
      rw [if_pos rfl] at q2
      rw [if_pos rfl]
      refine ⟨fun σ' H' => ∃ m', m' < m ∧ ∃ ρ' h', Frm h H h' H' ∧ HRel X.K H' h' ∧ RelE X.K H' h' ρ' σ' ∧ W m' ρ' h', fun σ' H' q => q, ρ1, h2, _, Ed, re1.frm f2, hr2, q2, ?_, (cx.frm f1).frm f2⟩
      have f := f1.trans f2
      exact ⟨fun ρ3 h3 σ3 H3 f3 hr3 re3 ⟨m', hm, q3⟩ => ⟨m', hm, ρ3, h3, f.trans f3, hr3, re3, q3⟩, c.rt.frm f, fun ρ3 h3 σ3 H3 f3 => c.nx ρ3 h3 σ3 H3 (f.trans f3), fun ρ3 h3 σ3 H3 f3 hr3 re3 ⟨m', hm, q3⟩ => ⟨m', hm, ρ3, h3, f.trans f3, hr3, re3, q3⟩⟩
    | false =>
      rw [if_neg Bool.false_ne_true] at q2
      rw [if_neg Bool.false_ne_true]
      exact c.nx ρ1 h2 σ1 H2 (f1.trans f2) hr2 (re1.frm f2) q2
theorem ds_for (ok : COk C G k E X) (hi : PI X tg iter (iD X.K E WI)) (hg : PG X tg (tDG X.K E sl Tg)) (hb : PSs X sb (tDS X.K E V)) (hp : plainIt iter = true) :
    PS X (.For tg iter sb [] pos) (tDS X.K E fun ρ h N Xd => WI ρ h (fun ds h1 => loopF Tg V N Xd ds ρ h1) (Xd ρ)) :=
  (ps_for ok.po ok.calm hi hg hb (plainIt_eq hp)).weak fun N σ H ⟨ρ, h, Nd, Ed, re, hr, t, c, cx⟩ => by
    refine ⟨ρ, h, _, Ed ρ, re, hr, t, fun ds h1 H1 J f1 hr1 wk q1 => ?_, cx.now re hr⟩
    let P : Nat → L2.St → Hp → Prop := fun i σ2 H2 => ∃ ρ2 h2, Frm h1 H1 h2 H2 ∧ HRel X.K H2 h2 ∧ RelE X.K H2 h2 ρ2 σ2 ∧ loopF Tg V Nd Ed (ds.drop i) ρ2 h2
    refine ⟨fun i n σ2 H2 => n = ds.length - i ∧ i ≤ ds.length ∧ P i σ2 H2, ⟨ds.length, rfl, Nat.zero_le _, ρ, h1, Frm.refl, hr1, re.frm f1, q1⟩, ?_⟩
    rintro i n σ2 H2 ⟨rfl, hi, ρ2, h2, f2, hr2, re2, q2⟩
    have wk2 := wk h2 H2 f2 hr2 i
    have f12 := f1.trans f2
    by_cases hlt : i < ds.length
    · have e1 : ds.drop i = ds[i] :: ds.drop (i + 1) := List.drop_eq_getElem_cons hlt
      rw [e1] at q2
      obtain ⟨go, yl⟩ := wk2.1 ds[i] (List.getElem?_eq_getElem hlt)
      refine .inr ⟨go, fun σ' H' => P (i + 1) σ' H', fun σ' H' p => ⟨ds.length - (i + 1), by omega, rfl, hlt, p⟩, fun x H' y => ?_⟩
      obtain ⟨f3, hr3, r3⟩ := yl x H' y
      have q2 : Tg ds[i] ρ2 h2 (fun ρ1 h1 => V ρ1 h1 { nx := loopF Tg V Nd Ed (ds.drop (i + 1)), rt := Nd.rt, bk := Nd.nx, ct := loopF Tg V Nd Ed (ds.drop (i + 1)) } Ed) (fun _ _ => False) := q2
      have f13 := f12.trans f3
      refine ⟨ds[i], ρ2, h2, _, _, r3, re2.frm f3, hr3, q2, fun ρ4 h4 σ4 H4 f4 hr4 re4 s4 q4 => ?_, rfl⟩
      have f14 := f13.trans f4
      have go2 : ∀ ρ1 h1 σ1 H1, Frm h4 H4 h1 H1 → HRel X.K H1 h1 → RelE X.K H1 h1 ρ1 σ1 → loopF Tg V Nd Ed (ds.drop (i + 1)) ρ1 h1 → P (i + 1) σ1 H1 :=
        fun ρ5 h5 σ5 H5 f5 hr5 re5 q5 => ⟨ρ5, h5, f2.trans (f3.trans (f4.trans f5)), hr5, re5, q5⟩
      exact ⟨ρ4, h4, _, Ed, re4, hr4, q4, ⟨go2, c.rt.frm f14, fun ρ5 h5 σ5 H5 f5 => c.nx ρ5 h5 σ5 H5 (f14.trans f5), go2⟩, cx.frm f14⟩
    · have e : i = ds.length := by omega
      subst e
      rw [List.drop_length] at q2
      exact .inl ⟨wk2.2 rfl, c.nx ρ2 h2 σ2 H2 f12 hr2 re2 q2⟩
theorem ds_aug (ok : COk C G k E X) {i : Nat} {o : Op2} (hx : mSet C i x = true) (he : PE X e (tD X.K E Te)) : PS X (.AugAssign (.Name x p) (opO o) e pos) (tDS X.K E fun ρ h N Xd => match lk ρ i with
    | some x => Te ρ h (fun y h1 => iopR o x y h1 fun d h2 => stK ρ i d fun ρ1 => N.nx ρ1 h2) (Xd ρ)
    | _ => False) := by
  obtain ⟨h1, h2⟩ := and2 hx
  obtain ⟨h3, h4⟩ := loc_of ok h2
  refine (ps_aug (i := i) (by rw [ok.N]; exact ok.nd) (by rw [ok.N]; exact of_decide_eq_true h1) h3 he (do_iop o) h4).weak fun N σ H ⟨ρ, h, Nd, Ed, re, hr, t, c, cx⟩ => ?_
  dsimp only at t
  split at t
  · rename_i d e
    obtain ⟨v, e1, r⟩ := re.get i d (lk_get e)
    refine ⟨v, e1, ρ, h, _, Ed ρ, re, hr, t, fun d1 h1 v1 H1 f1 hr1 r1 q1 => ?_, cx.now re hr⟩
    refine ⟨h1, d, d1, _, hr1, r.frm f1, r1, q1, fun d2 h2 v2 H2 f2 hr2 r2 q2 => ?_⟩
    have f := f1.trans f2
    rw [stK_eq] at q2
    exact c.nx _ h2 _ H2 f hr2 ((re.frm f).st r2 i) q2
  · exact t.elim
theorem ds_augS {o : Op2} (ha : PE X a (tD X.K E Ta)) (hb : PE X b (tD X.K E Tb)) (he : PE X e (tD X.K E Te)) (hs : isSlice b = false) : PS X (.AugAssign (.Subscript a b p) (opO o) e pos) (tDS X.K E fun ρ h N Xd =>
    Ta ρ h (fun x h1 => Tb ρ h1 (fun kx h2 => getR x kx h2 (fun y h3 => Te ρ h3 (fun z h4 => iopR o y z h4 fun d h5 => setR x kx d h5 fun h6 => N.nx ρ h6) (Xd ρ))) (Xd ρ)) (Xd ρ)) :=
  (ps_augS ha hb get_lst he (do_iop o) set_list (by intros; cases b <;> first | rfl | (cases hs; done))).weak fun N σ H ⟨ρ, h, Nd, Ed, re, hr, t, c, cx⟩ => by
    refine ⟨ρ, h, _, Ed ρ, re, hr, t, fun d1 h1 v1 H1 f1 hr1 r1 q1 => ?_, cx.now re hr⟩
    refine ⟨ρ, h1, _, Ed ρ, re.frm f1, hr1, q1, fun d2 h2 v2 H2 f2 hr2 r2 q2 => ?_, (cx.frm f1).now (re.frm f1) hr1⟩
    have f12 := f1.trans f2
    refine ⟨h2, d1, d2, _, hr2, r1.frm f2, r2, q2, fun d3 h3 v3 H3 f3 hr3 r3 q3 => ?_⟩
    have f13 := f12.trans f3
    refine ⟨ρ, h3, _, Ed ρ, re.frm f13, hr3, q3, fun d4 h4 v4 H4 f4 hr4 r4 q4 => ?_, (cx.frm f13).now (re.frm f13) hr3⟩
    refine ⟨h4, d3, d4, _, hr4, r3.frm f4, r4, q4, fun d5 h5 v5 H5 f5 hr5 r5 q5 => ?_⟩
    have g := f3.trans (f4.trans f5)
    have f15 := f12.trans g
    exact setR_ok hr5 ((r1.frm f2).frm g) (r2.frm g) r5 q5 fun h6 H6 f6 hr6 q6 => c.nx ρ h6 σ H6 (f15.trans f6) hr6 (re.frm (f15.trans f6)) q6
theorem ds_par {i j : Nat} {y : Str} {px py pt pt2 : Pos} {kt k2 : Nat} (ok : COk C G k E X) (hi : C.N[i]? = some x) (hj : C.N[j]? = some y) (hij : i ≠ j) (lx : C.sc.names.lookup x = some .local) (ly : C.sc.names.lookup y = some .local)
    (ha : PA X [a, b] (tDs X.K E Ts)) (hw : swp C.sc (.Tuple [.Name x px, .Name y py] kt pt) (.Tuple [a, b] k2 pt2) = some (some [x, y])) :
    PS X (.Assign [.Tuple [.Name x px, .Name y py] kt pt] (.Tuple [a, b] k2 pt2) pos) (tDS X.K E fun ρ h N Xd => Ts ρ h (fun ds h1 => setMK ρ [i, j] ds fun ρ1 => N.nx ρ1 h1) (Xd ρ)) :=
  (ps_par ok.calm (by rw [ok.N]; exact ok.nd) (by rw [ok.N]; exact hi) (by rw [ok.N]; exact hj) hij (by rw [ok.sc]; exact lx) (by rw [ok.sc]; exact ly) ha (swp_ok ok.sc ok.kind hw)).weak fun N σ H ⟨ρ, h, Nd, Ed, re, hr, t, c, cx⟩ => by
    refine ⟨ρ, h, _, Ed ρ, re, hr, t, fun ds h1 vs H1 f1 hr1 r1 q1 => ?_, cx.now re hr⟩
    match ds, vs, r1, q1 with
    | [], _, _, q1 => exact q1.elim
    | [_], _, _, q1 =>
      have q1 : stK ρ i _ fun ρ1 => False := q1
      rw [stK_eq] at q1
      exact q1.elim
    | [d1, d2], _, .cons r1 (.cons r2 .nil), q1 =>
      have q1 : stK ρ i d1 fun ρ1 => stK ρ1 j d2 fun ρ1 => Nd.nx ρ1 h1 := q1
      rw [stK_eq, stK_eq] at q1
      exact ⟨_, _, rfl, c.nx _ h1 _ H1 f1 hr1 (((re.frm f1).st r1 i).st r2 j) q1⟩
    | _ :: _ :: _ :: _, _, _, q1 =>
      have q1 : stK ρ i _ fun ρ1 => stK ρ1 j _ fun ρ1 => False := q1
      rw [stK_eq, stK_eq] at q1
      exact q1.elim
theorem ds_par3 {i j l : Nat} {y z : Str} {d : Expr} {px py pz pt pt2 : Pos} {kt k2 : Nat} (ok : COk C G k E X) (hi : C.N[i]? = some x) (hj : C.N[j]? = some y) (hl : C.N[l]? = some z) (hij : i ≠ j) (hil : i ≠ l) (hjl : j ≠ l) (lx : C.sc.names.lookup x = some .local) (ly : C.sc.names.lookup y = some .local) (lz : C.sc.names.lookup z = some .local)
    (ha : PA X [a, b, d] (tDs X.K E Ts)) (hw : swp C.sc (.Tuple [.Name x px, .Name y py, .Name z pz] kt pt) (.Tuple [a, b, d] k2 pt2) = some (some [x, y, z])) :
    PS X (.Assign [.Tuple [.Name x px, .Name y py, .Name z pz] kt pt] (.Tuple [a, b, d] k2 pt2) pos) (tDS X.K E fun ρ h N Xd => Ts ρ h (fun ds h1 => setMK ρ [i, j, l] ds fun ρ1 => N.nx ρ1 h1) (Xd ρ)) :=
  (ps_par3 ok.calm (by rw [ok.N]; exact ok.nd) (by rw [ok.N]; exact hi) (by rw [ok.N]; exact hj) (by rw [ok.N]; exact hl) hij hil hjl (by rw [ok.sc]; exact lx) (by rw [ok.sc]; exact ly) (by rw [ok.sc]; exact lz) ha (swp_ok ok.sc ok.kind hw)).weak fun N σ H ⟨ρ, h, Nd, Ed, re, hr, t, c, cx⟩ => by
    refine ⟨ρ, h, _, Ed ρ, re, hr, t, fun ds h1 vs H1 f1 hr1 r1 q1 => ?_, cx.now re hr⟩
    match ds, vs, r1, q1 with
    | [], _, _, q1 => exact q1.elim
    | [_], _, _, q1 =>
      have q1 : stK ρ i _ fun ρ1 => False := q1
      rw [stK_eq] at q1
      exact q1.elim
    | [_, _], _, _, q1 =>
      have q1 : stK ρ i _ fun ρ1 => stK ρ1 j _ fun ρ1 => False := q1
      rw [stK_eq, stK_eq] at q1
      exact q1.elim
    | [d1, d2, d3], _, .cons r1 (.cons r2 (.cons r3 .nil)), q1 =>
      have q1 : stK ρ i d1 fun ρ1 => stK ρ1 j d2 fun ρ1 => stK ρ1 l d3 fun ρ1 => Nd.nx ρ1 h1 := q1
      rw [stK_eq, stK_eq, stK_eq] at q1
      exact ⟨_, _, _, rfl, c.nx _ h1 _ H1 f1 hr1 ((((re.frm f1).st r1 i).st r2 j).st r3 l) q1⟩
    | _ :: _ :: _ :: _ :: _, _, _, q1 =>
      have q1 : stK ρ i _ fun ρ1 => stK ρ1 j _ fun ρ1 => stK ρ1 l _ fun ρ1 => False := q1
      rw [stK_eq, stK_eq, stK_eq] at q1
      exact q1.elim
variable {elt : Expr} {ifs : List Expr} {scope : Scope} {own : List (Str × Nat)} {Tc : TDt} {m : Bool} {cpos spos : Pos}
theorem ds_setLc {i : Nat} (ok : COk C G k E X) (hx : mSet C i x = true) (hl : C.sc.names.lookup x = some .local) (hi : PI X tg iter (iD X.K E WI)) (hb : blkC C.N C.sc scope own = true)
    (hg : ∀ (s : Shared) (H : Hp) (A : Addr) (cl : List (Str × Addr)) (fp : List Addr), PG (X.blk s H scope (compEnvC scope cl A X.env) fp) tg (tDG X.K NoX sl Tg))
    (ht : ∀ (s : Shared) (H : Hp) (A : Addr) (cl : List (Str × Addr)) (fp : List Addr), PTs (X.blk s H scope (compEnvC scope cl A X.env) fp) ifs (tDt X.K NoX Tc))
    (he : ∀ (s : Shared) (H : Hp) (A : Addr) (cl : List (Str × Addr)) (fp : List Addr), PE (X.blk s H scope (compEnvC scope cl A X.env) fp) elt (tD X.K NoX Te))
    (hsl : ∀ i ∈ sl, i ∈ own.map (·.2)) (hp : plainIt iter = true) (hw : swc C.sc (.ListComp elt [⟨tg, iter, ifs, 0⟩] scope cpos) (.Name x p) = true) :
    PS X (.Assign [.Name x p] (.ListComp elt [⟨tg, iter, ifs, 0⟩] scope cpos) spos) (tDS X.K E fun ρ h N Xd => WI ρ h (fun ds h1 => ∀ D, h1 D = none → loopC Tg Tc Te (wipeE ρ (own.map (·.2))) (fun ys h2 => endC m D ys h2 fun d h3 => stK ρ i d fun ρ1 => N.nx ρ1 h3) ds [] (hupd h1 D .non)) (Xd ρ)) := by
  obtain ⟨h1, h2⟩ := and2 hx
  refine (ps_setLc ok.calm (by rw [ok.N]; exact ok.nd) (i := i) (by rw [ok.N]; exact of_decide_eq_true h1) (by rw [ok.sc]; exact hl) (by rw [swc_ok ok.sc ok.kind rfl, hw]) hi (by rw [ok.N, ok.sc]; exact blkOk_by hb) hg ht he (plainIt_eq hp)).weak fun N σ H ⟨ρ, h, Nd, Ed, re, hr, t, c, cx⟩ => ?_
  refine comp_weak (m := m) hsl σ H _ ⟨ρ, h, fun d h1 => stK ρ i d fun ρ1 => Nd.nx ρ1 h1, Ed ρ, re, hr, t, fun d1 h1 v1 H1 f1 hr1 r1 q1 => ?_, cx.now re hr⟩
  dsimp only at q1
  rw [stK_eq] at q1
  exact c.nx _ h1 _ H1 f1 hr1 ((re.frm f1).st r1 i) q1
end
end Y
namespace Y
open PySem PySem.Spec PyProof.Rows L2
/-! ### calls with a first argument that is there already -/
section
variable {C : Ctx} {G : Prg} {k : Nat} {E : XKs} {X : Cx} {a b o e : Expr} {es : List Expr} {Ta To : TD} {Ts Tk : TDs} {x : Str} {p pos apos : Pos}
/-- the keywords' part and the call, from the arguments' values on -/
theorem call_restF (ok : COk C G k E X) {f si : Nat} {i : FnI} {sh : Shape} {kws : List Keyword} (eG : G.sh f si = sh) {av : Addr} {fd : FuncData} {kf : Nat} (hkf : kf + 3 ≤ k) (F : FnOk X.prog X.w X.K X.mg X.base (L2.CX X.prog X.w) kf av fd i.ps (toSp X.K i.ps.length (G.Φ f))) (sb : KSh X.K fd i.ps sh)
    (hk : kwN kws = sh.ks.map some) (hkw : PK X kws (tDs X.K E Tk)) {fu : Value} {fv : V} {fD : D} (rf : RelV fv fu)
    {pins : List (Addr × Obj)} {σ : L2.St} {H H1 : Hp} {h h1 : Hd} {s1 : Shared} {Q : VK} {Qd : QD} {Ed : QX} {ρ : DEnv} {us : List Value} {vs : List V} {ds : List D} (re : RelE X.K H h ρ σ) (c : Cl X.K h H Qd Q) (cx : ClX X.K h H Ed (E σ))
    (I1 : Inv X pins σ H1 s1) (r1 : Vals vs us) (f1 : Frm h H h1 H1) (hr1 : HRel X.K H1 h1) (rd : Reps X.K H1 h1 ds vs) (rfd : Rep X.K H1 h1 fD fv)
    (q1 : Tk ρ h1 (fun zs h2 => callD G f si (fD :: ds) zs h2 Qd Ed) Ed) :
    wpAny (model X.prog X.w) X.A (evalAll ((backToKw pos (keywordEach kws X.env)).map (·.2))) (fun ks s₂ => X.K.In s₂.heap ∧ wpAny (model X.prog X.w) X.A (call (.ref av) (fu :: us) (((backToKw pos (keywordEach kws X.env)).filterMap (·.1)).zip ks)) (EP X pins σ Q) X.xe s₂) X.xe s1 := by
  obtain ⟨k1, k2, k3⟩ := kw_all (pos := pos) (env := X.env) hk
  refine thn (hkw.run pos pins s1 σ H1 (fun zs H2 => ∃ h2 es2, Frm h1 H1 h2 H2 ∧ HRel X.K H2 h2 ∧ Reps X.K H2 h2 es2 zs ∧ callD G f si (fD :: ds) es2 h2 Qd Ed) I1 ⟨ρ, h1, _, Ed, re.frm f1, hr1, q1, fun d2 h2 v2 H2 f2 hr2 r2 q2 => ⟨h2, d2, f2, hr2, r2, q2⟩, cx.frm f1⟩) fun ws s2 ⟨zs, H2, I2, rz, h2, es2, f2, hr2, r2, q2⟩ => ⟨I2.kIn, ?_⟩
  rw [k2]
  obtain ⟨ld, l2, q2⟩ := q2
  rw [eG] at q2 ld l2
  refine run_call ok hkf F sb ?_ ?_ I2 (.cons rf r1) rz hr2 (.cons (rfd.frm f2) (rd.frm f2)) r2 q2 (c.frm (f1.trans f2)) (cx.frm (f1.trans f2))
  · rw [← ld, List.length_cons, List.length_cons, ← r1.length, ← rd.length]
  · rw [← rz.length, ← r2.length, l2]
theorem posF_none {m : Str} : ∀ {ns : List Str} {vs : List V}, posF m ns = none → (ns.zip vs).lookup m = none
  | [], _, _ => rfl
  | n :: ns, [], _ => rfl
  | n :: ns, v :: vs, h => by
    unfold posF at h
    split at h
    · cases h
    · rename_i q
      rw [List.zip_cons_cons, List.lookup_cons]
      have : (m == n) = false := by simpa using fun z : m = n => q z.symm
      rw [this]
      refine posF_none ?_
      cases e : posF m ns with
      | none => rfl
      | some j => rw [e] at h; cases h
/-- o.m(..) of an own class -/
theorem d_mcl (ok : COk C G k E X) {f si : Nat} {i : FnI} {sh : Shape} {c m : Str} {kws : List Keyword} (hf : C.fns.lookup f = some i) (hsh : i.shapes[si]? = some sh) (ho : i.own = some (c, m)) (hO : PE X o (tD X.K E To)) (hk : kwN kws = sh.ks.map some)
    (ha : PA X es (tDs X.K E Ts)) (hkw : PK X kws (tDs X.K E Tk)) (hs : noStar es = true) (hbase : baseOk o = true) (hline : lineOk apos pos = true) (hlen : es.length + kws.length < 20) (hT : es = [] → ∀ ρ h Q Xd, Ts ρ h Q Xd → Q [] h) :
    PE X (.Call (.Attribute o m apos) es kws pos) (tD X.K E fun ρ h Q Xd => To ρ h (fun x h1 => match insOf h1 x with
      | some (c', ns, _) => (c' = c ∧ posF m ns = none) ∧ Ts ρ h1 (fun ds h2 => Tk ρ h2 (fun es h3 => callD G f si (x :: ds) es h3 Q Xd) Xd) Xd
      | none => False) Xd) := by
  obtain ⟨⟨av, fd, kf, hkf, F, hrf, hsb⟩, hG⟩ := (ok.fns f i hf).imp FnGood.ok id
  unfold ReachF at hrf
  rw [ho] at hrf
  obtain ⟨hC, hM⟩ := hrf
  have eG := hG si sh hsh
  have sb := hsb sh (List.mem_of_getElem? hsh)
  obtain ⟨k1, k2, k3⟩ := kw_all (pos := pos) (env := X.env) hk
  have form : methodCallForm (es.length + kws.length) (backTo pos (starEach es X.env)) (backToKw pos (keywordEach kws X.env)) = true := by
    unfold methodCallForm
    rw [few_ok hs, k1, Bool.true_and, Bool.true_and]
    refine decide_eq_true ?_
    split <;> omega
  refine ⟨fun pins s σ H Q I hx => ?_⟩
  obtain ⟨ρ, h, Qd, Ed, re, hr, t, c0, cx⟩ := hx
  refine PySem.W.methodCall_KW (pl := plainOf o X.env) (thn (hO.run pins s σ H (fun v H1 => ∃ h1 d1, Frm h H h1 H1 ∧ HRel X.K H1 h1 ∧ Rep X.K H1 h1 d1 v ∧ (match insOf h1 d1 with
      | some (c', ns, _) => (c' = c ∧ posF m ns = none) ∧ Ts ρ h1 (fun ds h2 => Tk ρ h2 (fun es h3 => callD G f si (d1 :: ds) es h3 Qd Ed) Ed) Ed
      | none => False)) I ⟨ρ, h, _, Ed, re, hr, t, fun d1 h1 v1 H1 f1 hr1 r1 q1 => ⟨h1, d1, f1, hr1, r1, q1⟩, cx⟩) fun u s1 ⟨v, H1, I1, ru, h1, d1, f1, hr1, rd1, q1⟩ => ?_) (mcall_eq (baseOk_eq hbase) form hline)
  split at q1
  · rename_i c' ns ds0 e
    obtain ⟨⟨rfl, hp⟩, q1⟩ := q1
    obtain ⟨a, dx, vs0, rfl, e1, l, rs⟩ := insOf_ok hr1 rd1 e
    obtain rfl : u = Value.ref a := ru
    refine getmeth_ok I1 e1 hC hM (posF_none hp) ?_
    cases es with
    | nil =>
      have q1 := hT rfl _ _ _ _ q1
      refine PySem.W.callWith_KW0 (h₀ := X.base) (first := [.ref a]) I1.ok.mod.kin hM.kp k1 ?_ (by show ((false : Bool) || _) = false; rw [k3]; rfl)
      exact call_restF ok eG hkf F sb hk hkw (fu := .ref a) (fv := .ref a) rfl re c0 cx I1 .nil f1 hr1 .nil rd1 q1
    | cons e0 es0 =>
      obtain ⟨n1, n2⟩ := noStar_cons hs
      refine PySem.W.callWith_KW (h₀ := X.base) (first := [.ref a]) I1.ok.mod.kin hM.kp k1 ?_ (by rw [noStar_any hs, k3]; rfl) (n2 _)
      refine thn (ha.run pos pins s1 σ H1 (fun vs H2 => ∃ h2 ds, Frm h1 H1 h2 H2 ∧ HRel X.K H2 h2 ∧ Reps X.K H2 h2 ds vs ∧ Tk ρ h2 (fun es h3 => callD G f si (d1 :: ds) es h3 Qd Ed) Ed) I1 ⟨ρ, h1, _, Ed, re.frm f1, hr1, q1, fun d2 h2 v2 H2 f2 hr2 r2 q2 => ⟨h2, d2, f2, hr2, r2, q2⟩, cx.frm f1⟩) fun us s2 ⟨vs, H2, I2, r2, h2, ds, f2, hr2, rd, q2⟩ => ?_
      exact call_restF ok eG hkf F sb hk hkw (fu := .ref a) (fv := .ref a) rfl re c0 cx I2 r2 (f1.trans f2) hr2 rd (rd1.frm f2) q2
  · exact q1.elim
/-! ### a new instance -/
theorem run_newY (ok : COk C G k E X) {pins : List (Addr × Obj)} {σ : L2.St} {H : Hp} {s : Shared} {Q : VK} {us ws : List Value} {vs zs : List V} {ds es : List D} {h : Hd} {f si : Nat} {i : FnI} {sh : Shape} {c : Str} {Qd : QD} {Ed : QX} (eG : G.sh f si = sh)
    {av : Addr} {fd : FuncData} {kf : Nat} (hk : kf + 3 ≤ k) (M : Mk X.K (He.ga X.K c) av) (F : FnOk X.prog X.w X.K X.mg X.base (L2.CX X.prog X.w) kf av fd i.ps (toSp X.K i.ps.length (G.Φ f))) (sb : KSh X.K fd i.ps sh)
    (I : Inv X pins σ H s) (r : Vals vs us) (rz : Vals zs ws) (hr : HRel X.K H h) (rd : Reps X.K H h ds vs) (re : Reps X.K H h es zs)
    (q : ∀ a, h a = none → callD G f si (.ref a :: ds) es (hupd h a (.ins c [] [])) (fun v h3 => match v with | .non => Qd (.ref a) h3 | _ => False) Ed) (c0 : Cl X.K h H Qd Q) (cx : ClX X.K h H Ed (E σ)) :
    wpAny (model X.prog X.w) X.A (call (.ref (He.ga X.K c)) us (sh.ks.zip ws)) (EP X pins σ Q) X.xe s := by
  have n1 : H (s.heap.objs.size + 1) = none := I.hok.fresh (Nat.le_succ _)
  have n0 : H s.heap.objs.size = none := I.hok.fresh (Nat.le_refl _)
  have ne : s.heap.objs.size + 1 ≠ s.heap.objs.size := Nat.succ_ne_self _
  have n2 : upd H s.heap.objs.size (.own (s.heap.objs.size + 1)) (s.heap.objs.size + 1) = none := by rw [upd_ne ne]; exact n1
  have hq := q (s.heap.objs.size + 1) (hr.gone n1)
  have I2 := Inv.made (C := He.ga X.K c) I
  have fr1 : Frm h H h (upd H s.heap.objs.size (.own (s.heap.objs.size + 1))) := Frm.newF n0
  have hr1 : HRel X.K (upd H s.heap.objs.size (.own (s.heap.objs.size + 1))) h := hr.newF n0
  have fr2 : Frm h (upd H s.heap.objs.size (.own (s.heap.objs.size + 1))) (hupd h (s.heap.objs.size + 1) (.ins c [] [])) (upd (upd H s.heap.objs.size (.own (s.heap.objs.size + 1))) (s.heap.objs.size + 1) (.ins (He.ga X.K c) s.heap.objs.size [])) := Frm.new n2 (hr1.gone n2)
  have hr2 : HRel X.K (upd (upd H s.heap.objs.size (.own (s.heap.objs.size + 1))) (s.heap.objs.size + 1) (.ins (He.ga X.K c) s.heap.objs.size [])) (hupd h (s.heap.objs.size + 1) (.ins c [] [])) := hr1.new n2 ⟨s.heap.objs.size, [], by rw [upd_same]; rfl, rfl, .nil⟩
  have fr := fr1.trans fr2
  obtain ⟨ld, l2, hq⟩ := hq
  rw [eG] at hq ld l2
  cases e : pickD sh.pl (.ref (s.heap.objs.size + 1) :: ds) es with
  | none => rw [e] at hq; exact hq.elim
  | some xs =>
    rw [e] at hq
    have rd2 : Reps X.K _ _ (.ref (s.heap.objs.size + 1) :: ds) (.ref (s.heap.objs.size + 1) :: vs) := .cons (.ref _) (rd.frm fr)
    obtain ⟨zv, e1, rp⟩ := pick_rep rd2 (re.frm fr) e
    obtain ⟨zv', zl, e2, rv, ln, hb⟩ := sb { s with heap := (s.heap.push PySem.W.emptyDict).push (PySem.W.instObj (He.ga X.K c) s.heap.objs.size) } (.ref (s.heap.objs.size + 1) :: us) ws (.ref (s.heap.objs.size + 1) :: vs) zs I2.kIn (by rw [← ld, List.length_cons, List.length_cons, ← r.length, ← rd.length]) (by rw [← rz.length, ← re.length, l2]) (.cons rfl r) rz
    rw [e1] at e2; cases e2
    have lv : zv.length = i.ps.length := by rw [← ln]; exact rv.length
    have hsp : toSp X.K i.ps.length (G.Φ f) zv _ (fun v H3 => v = .non ∧ Q (.ref (s.heap.objs.size + 1)) H3) (E σ) := ⟨xs, _, _, Ed, lv, rp, hr2, hq, fun d1 h1 v1 H1 f1 hr1 r1 q1 => by
      cases d1 with
      | non => cases r1; exact ⟨rfl, c0 _ _ _ _ (fr.trans f1) hr1 (.ref _) q1⟩
      | _ => exact q1.elim, cx.frm fr⟩
    refine wpAny_call (make_map (f := av) I.kIn M.makes M.init (beq_iff_eq.mp M.fn) (codeAny_mono (F.run _ X.stack _ _ ⟨Value.ref (s.heap.objs.size + 1) :: us, sh.ks.zip ws⟩ zl zv _ (E σ) ((ok.room.mono (show kf + 1 ≤ k by omega)).make (He.ga X.K c) us (sh.ks.zip ws))
      (I2.env0.make (He.ga X.K c) us (sh.ks.zip ws)) hb rv hsp) fun r s' hq' => ?_))
    cases r with
    | error e => exact ok.px σ pins _ _ e s' I2 hq'
    | ok fl =>
      cases fl with
      | ret u =>
        obtain ⟨v, H', I3, rv, ev, q3⟩ := I2.after hq'
        subst ev
        exact ⟨rv, ⟨V.ref (s.heap.objs.size + 1), H', I3, rfl, q3⟩⟩
      | next => exact False.elim hq'
      | brk => exact False.elim hq'
      | cont => exact False.elim hq'
/-- C(..) -/
theorem d_new (ok : COk C G k E X) {f si : Nat} {i : FnI} {sh : Shape} {c : Str} {kws : List Keyword} (hf : C.fns.lookup f = some i) (hsh : i.shapes[si]? = some sh) (ho : i.own = some (c, ("__init__" : Str))) (hc : c ∈ C.clss) (hg : glB C.sc c = true) (hn : okName c = true) (hk : kwN kws = sh.ks.map some)
    (ha : PA X es (tDs X.K E Ts)) (hkw : PK X kws (tDs X.K E Tk)) (hs : noStar es = true) (hT : es = [] → ∀ ρ h Q Xd, Ts ρ h Q Xd → Q [] h) :
    PE X (.Call (.Name c p) es kws pos) (tD X.K E fun ρ h Q Xd => Ts ρ h (fun ds h1 => Tk ρ h1 (fun es h2 => prmR G (.new c f si) ds es h2 Q Xd) Xd) Xd) := by
  obtain ⟨⟨av, fd, kf, hkf, F, hrf, hsb⟩, hG⟩ := (ok.fns f i hf).imp FnGood.ok id
  unfold ReachF at hrf
  rw [ho] at hrf
  obtain ⟨hC, hM⟩ := hrf
  have T := ok.cls c hc
  have M : Mk X.K (He.ga X.K c) av := ⟨T.mks, hM.at_, hM.fn, T.kp⟩
  have eG := hG si sh hsh
  have sb := hsb sh (List.mem_of_getElem? hsh)
  obtain ⟨k1, k2, k3⟩ := kw_all (pos := pos) (env := X.env) hk
  refine ⟨fun pins s σ H Q I hx => ?_⟩
  obtain ⟨ρ, h, Qd, Ed, re, hr, t, c0, cx⟩ := hx
  refine wpAny_Call_Name_kw (ld_glob I (gl_of ok hg) T.mg ?_ (okName.dbg hn))
  have rest : ∀ {s1 : Shared} {H1 : Hp} {h1 : Hd} {us : List Value} {vs : List V} {ds : List D}, Inv X pins σ H1 s1 → Vals vs us → Frm h H h1 H1 → HRel X.K H1 h1 → Reps X.K H1 h1 ds vs → Tk ρ h1 (fun es h2 => prmR G (.new c f si) ds es h2 Qd Ed) Ed →
      wpAny (model X.prog X.w) X.A (evalAll ((backToKw pos (keywordEach kws X.env)).map (·.2))) (fun ks s₂ => X.K.In s₂.heap ∧ wpAny (model X.prog X.w) X.A (call (.ref (He.ga X.K c)) ([] ++ us) (((backToKw pos (keywordEach kws X.env)).filterMap (·.1)).zip ks)) (EP X pins σ Q) X.xe s₂) X.xe s1 := by
    intro s1 H1 h1 us vs ds I1 r1 f1 hr1 rd q1
    refine thn (hkw.run pos pins s1 σ H1 (fun zs H2 => ∃ h2 es2, Frm h1 H1 h2 H2 ∧ HRel X.K H2 h2 ∧ Reps X.K H2 h2 es2 zs ∧ prmR G (.new c f si) ds es2 h2 Qd Ed) I1 ⟨ρ, h1, _, Ed, re.frm f1, hr1, q1, fun d2 h2 v2 H2 f2 hr2 r2 q2 => ⟨h2, d2, f2, hr2, r2, q2⟩, cx.frm f1⟩) fun ws s2 ⟨zs, H2, I2, rz, h2, es2, f2, hr2, r2, q2⟩ => ⟨I2.kIn, ?_⟩
    rw [k2, List.nil_append]
    exact run_newY ok eG hkf M F sb I2 r1 rz hr2 (rd.frm f2) r2 q2 (c0.frm (f1.trans f2)) (cx.frm (f1.trans f2))
  cases es with
  | nil =>
    have t := hT rfl _ _ _ _ t
    refine PySem.W.callWith_KW0 (h₀ := X.base) I.ok.mod.kin T.kp k1 ?_ (by show ((false : Bool) || _) = false; rw [k3]; rfl)
    exact rest I .nil Frm.refl hr .nil t
  | cons e0 es0 =>
    obtain ⟨n1, n2⟩ := noStar_cons hs
    refine PySem.W.callWith_KW (h₀ := X.base) I.ok.mod.kin T.kp k1 ?_ (by rw [noStar_any hs, k3]; rfl) (n2 _)
    refine thn (ha.run pos pins s σ H (fun vs H1 => ∃ h1 ds, Frm h H h1 H1 ∧ HRel X.K H1 h1 ∧ Reps X.K H1 h1 ds vs ∧ Tk ρ h1 (fun es h2 => prmR G (.new c f si) ds es h2 Qd Ed) Ed) I ⟨ρ, h, _, Ed, re, hr, t, fun d2 h2 v2 H2 f2 hr2 r2 q2 => ⟨h2, d2, f2, hr2, r2, q2⟩, cx⟩) fun us s1 ⟨vs, H1, I1, r1, h1, ds, f1, hr1, rd, q1⟩ => ?_
    exact rest I1 r1 f1 hr1 rd q1
end
end Y
namespace Y
open PySem PySem.Spec PyProof.Rows L2
section
variable {C : Ctx} {G : Prg} {k : Nat} {E : XKs} {X : Cx} {a b o e : Expr} {es : List Expr} {Ta To Te : TD} {Ts Tk : TDs} {x : Str} {p pos apos : Pos}
/-! ### isinstance of own classes -/
def rIsB (K : PySem.W.Frag) : List V → Hp → VK → Prop := fun xs H Q => rIsi K xs H Q ∨ rIsX K xs H Q
theorem call_isB : CallR X (.builtin "isinstance") (rIsB X.K) := fun pins s σ H xs us Q I r h => h.elim (call_isi pins s σ H xs us Q I r) (call_isX pins s σ H xs us Q I r)
theorem exc_at {K : PySem.W.Frag} {H : Hp} {h : Hd} {c : Str} {ns : List Str} {ds : List D} {v : V} (r : Rep K H h (.exc c ns ds) v) : ∃ a, v = .ref a ∧ XAt H a (He.ga K c) := by
  cases r with
  | exc0 e n => exact ⟨_, rfl, none, e, .inl rfl⟩
  | exc1 e n e2 n2 l r => exact ⟨_, rfl, _, e, .inr ⟨_, _, rfl, e2⟩⟩
theorem plain_ty {H : Hp} {h : Hd} {d : D} {v : V} (r : Rep X.K H h d v) (n : String) (e : dTy d = some n) : TyX X.K H v (.type n) ∧ n ∈ tyNms := by
  refine ⟨dTy_ok r e, ?_⟩
  cases d <;> first | (cases e; done) | (cases e; decide)
theorem plQ_ok {G : Prg} {b : Bool} (e : plQ G = some b) : G.kt = true ∧ b = false := by
  cases h : G.kt with
  | true => simp only [plQ, h] at e; cases e; exact ⟨rfl, rfl⟩
  | false => simp only [plQ, h] at e; cases e
theorem isc_rel (ok : COk C G k E X) {c : Str} {d : D} {h : Hd} {H : Hp} {v : V} {bb : Bool} (hc : c ∈ C.clss ∨ ∃ o, (c, o) ∈ C.exs) (hr : HRel X.K H h) (r : Rep X.K H h d v) (e : iscQ G c d h = some bb) :
    (∃ t, TyX X.K H v t ∧ PySem.W.kitOne X.K t (.ref (He.ga X.K c)) = some bb) ∨ ∃ a D, v = .ref a ∧ XAt H a D ∧ ExcC X.K D ∧ PySem.W.kitOne X.K (.ref D) (.ref (He.ga X.K c)) = some bb := by
  have T := ok.nms c hc
  have plain : ∀ n, dTy d = some n → plQ G = some bb → (∃ t, TyX X.K H v t ∧ PySem.W.kitOne X.K t (.ref (He.ga X.K c)) = some bb) := fun n e1 e2 => by
    obtain ⟨h1, h2⟩ := plain_ty r n e1
    exact ⟨_, h1, by rw [(plQ_ok e2).2]; exact T.kt (plQ_ok e2).1 n h2⟩
  have inst : ∀ k' ns ds, insOf h d = some (k', ns, ds) → (if G.oc c = true ∧ G.oc k' = true then some (decide (k' = c)) else none) = some bb → (∃ t, TyX X.K H v t ∧ PySem.W.kitOne X.K t (.ref (He.ga X.K c)) = some bb) := fun k' ns ds e1 e2 => by
    split at e2
    · rename_i hh
      obtain ⟨a, dx, vs, rfl, e3, l, rs⟩ := insOf_ok hr r e1
      have T2 := ok.cls k' (ok.oc k' hh.2)
      exact ⟨_, .base (.ins e3 T2.cls T2.isf.ha T2.isf.hn T2.isf.ht T2.isf.hm), by rw [ok.ock k' c hh.2 hh.1]; exact e2⟩
    · cases e2
  cases d with
  | exc c' ns ds =>
    obtain ⟨a, rfl, hx⟩ := exc_at r
    obtain ⟨h1, h2, h3⟩ := ok.sub c' c bb e
    exact .inr ⟨a, _, rfl, hx, h3, h2⟩
  | ins c' ns ds => exact .inl (inst c' ns ds rfl e)
  | ref a =>
    cases q : h a with
    | none => simp only [iscQ, q] at e; cases e
    | some y =>
      cases y with
      | ins c' ns ds =>
        simp only [iscQ, q] at e
        exact .inl (inst c' ns ds (by unfold insOf; dsimp only; rw [q]) e)
      | lst ds =>
        have e : plQ G = some bb := by
          simp only [iscQ, q] at e
          exact e
        cases r
        obtain ⟨vs, e1, _⟩ := hr a _ q
        rw [(plQ_ok e).2]
        exact .inl ⟨_, .base (.lst e1), T.kt (plQ_ok e).1 "list" (by decide)⟩
      | _ => simp only [iscQ, q] at e; cases e
  | scr is => cases e
  | non => exact .inl (plain _ rfl e)
  | bl b => exact .inl (plain _ rfl e)
  | int b => exact .inl (plain _ rfl e)
  | str b => exact .inl (plain _ rfl e)
  | tup b => exact .inl (plain _ rfl e)
  | lst b => exact .inl (plain _ rfl e)
  | dct b d => exact .inl (plain _ rfl e)
theorem d_isc (ok : COk C G k E X) {c : Str} {q1 : Pos} (hb : mBlt C "isinstance" = true) (hc : c ∈ C.clss ∨ ∃ o, (c, o) ∈ C.exs) (hg : glB C.sc c = true) (hn : okName c = true) (ha : PE X a (tD X.K E Ta)) (hs : noStar [a] = true) :
    PE X (.Call (.Name "isinstance" p) [a, .Name c q1] [] pos) (tD X.K E fun ρ h Q Xd => Ta ρ h (fun d h1 => boQ (iscQ G c d h1) h1 Q) Xd) := by
  obtain ⟨h1, h2⟩ := and2 hb
  obtain ⟨h2, h3⟩ := and2 h2
  have hm := ok.free _ (of_decide_eq_true h1)
  have hgi := gl_of ok h2
  have n3 : starEach [a, .Name c q1] X.env = (false, eval a X.env) :: starEach [.Name c q1] X.env := by
    cases a <;> first | rfl | (cases hs; done)
  have T := ok.nms c hc
  have pt : PE X (.Name c q1) (tC (.ref (He.ga X.K c))) := pe_glob (gl_of ok hg) T.mg rfl (okName.dbg hn)
  refine (pe_callB call_isB hgi hm (by decide +kernel) (pa_cons ha (pa_cons pt pa_nil rfl) n3) (okName.nm h3) (okName.dbg h3) n3 rfl).weak fun σ H Q ⟨ρ, h, Qd, Ed, re, hr, t1, c0, cx⟩ => ?_
  refine ⟨ρ, h, _, Ed, re, hr, t1, fun d1 h1 v1 H1 f1 hr1 r1 q1 => ?_, cx⟩
  cases q : iscQ G c d1 h1 with
  | none => dsimp only at q1; rw [q] at q1; exact q1.elim
  | some bb =>
    dsimp only at q1
    rw [q] at q1
    rcases isc_rel ok hc hr1 r1 q with ⟨t, z1, z2⟩ | ⟨a', D, rfl, z1, z2, z3⟩
    · exact .inl ⟨v1, _, t, _, bb, rfl, .own _, z1, z2, (c0.frm f1).here hr1 (.bl _) q1⟩
    · exact .inr ⟨a', D, _, _, bb, rfl, z1, z2, .own _, z3, (c0.frm f1).here hr1 (.bl _) q1⟩
theorem kit_meta {n : String} : ∀ m ∈ tyNms, (n = "ValueError" ∨ n = "LookupError" ∨ n = "ArithmeticError") → kitB m n = some false := by
  intro m hm hn
  rcases hn with rfl | rfl | rfl <;> (revert m; decide +kernel)
def isBE (n : Str) : Option String := if n = "ValueError" then some "ValueError" else if n = "LookupError" then some "LookupError" else if n = "ArithmeticError" then some "ArithmeticError" else none
theorem isBE_ok {n : Str} {s : String} (e : isBE n = some s) : bootBuiltins n = some (.type s) ∧ (s = "ValueError" ∨ s = "LookupError" ∨ s = "ArithmeticError") := by
  unfold isBE at e
  split at e
  · rename_i q; cases e; subst q; exact ⟨by decide +kernel, .inl rfl⟩
  · split at e
    · rename_i q; cases e; subst q; exact ⟨by decide +kernel, .inr (.inl rfl)⟩
    · split at e
      · rename_i q; cases e; subst q; exact ⟨by decide +kernel, .inr (.inr rfl)⟩
      · cases e
theorem d_isb (ok : COk C G k E X) {c : Str} {sn : String} {q1 : Pos} (hb : mBlt C "isinstance" = true) (ht : mBlt C c = true) (hbe : isBE c = some sn) (ha : PE X a (tD X.K E Ta)) (hs : noStar [a] = true) :
    PE X (.Call (.Name "isinstance" p) [a, .Name c q1] [] pos) (tD X.K E fun ρ h Q Xd => Ta ρ h (fun d h1 => boQ (isbQ G c d h1) h1 Q) Xd) := by
  obtain ⟨h1, h2⟩ := and2 hb
  obtain ⟨h2, h3⟩ := and2 h2
  obtain ⟨g1, g2⟩ := and2 ht
  obtain ⟨g2, g3⟩ := and2 g2
  have hm := ok.free _ (of_decide_eq_true h1)
  have hgi := gl_of ok h2
  obtain ⟨b1, b2⟩ := isBE_ok hbe
  have n3 : starEach [a, .Name c q1] X.env = (false, eval a X.env) :: starEach [.Name c q1] X.env := by
    cases a <;> first | rfl | (cases hs; done)
  have pt : PE X (.Name c q1) (tC (.ty sn)) := pe_bltn (gl_of ok g2) (ok.free _ (of_decide_eq_true g1)) b1 rfl (okName.nm g3) (okName.dbg g3)
  refine (pe_callB call_isB hgi hm (by decide +kernel) (pa_cons ha (pa_cons pt pa_nil rfl) n3) (okName.nm h3) (okName.dbg h3) n3 rfl).weak fun σ H Q ⟨ρ, h, Qd, Ed, re, hr, t1, c0, cx⟩ => ?_
  refine ⟨ρ, h, _, Ed, re, hr, t1, fun d1 h1 v1 H1 f1 hr1 r1 q1 => ?_, cx⟩
  cases q : isbQ G c d1 h1 with
  | none => dsimp only at q1; rw [q] at q1; exact q1.elim
  | some bb =>
    dsimp only at q1
    rw [q] at q1
    have fin := (c0.frm f1).here hr1 (.bl bb) q1
    have plain : ∀ n, dTy d1 = some n → bb = false → rIsB X.K [v1, .ty sn] H1 Q := fun n e1 e2 => by
      obtain ⟨z1, z2⟩ := plain_ty r1 n e1
      exact .inl ⟨v1, _, _, _, bb, rfl, .ty _, z1, by rw [e2]; exact kit_ty (kit_meta n z2 b2), fin⟩
    cases d1 with
    | exc c' ns ds =>
      obtain ⟨a', rfl, hx⟩ := exc_at r1
      obtain ⟨n, s1, s2, _, s3⟩ := ok.subB c' c bb q
      rw [b1] at s1; cases s1
      exact .inr ⟨a', _, _, _, bb, rfl, hx, s3, .ty _, s2, fin⟩
    | ins _ _ _ => cases q
    | ref _ => cases q
    | scr _ => cases q
    | non => cases q; exact plain _ rfl rfl
    | bl b => cases q; exact plain _ rfl rfl
    | int b => cases q; exact plain _ rfl rfl
    | str b => cases q; exact plain _ rfl rfl
    | tup b => cases q; exact plain _ rfl rfl
    | lst b => cases q; exact plain _ rfl rfl
    | dct b d => cases q; exact plain _ rfl rfl
/-! ### e.f of a caught exception -/
theorem nth_zip {K : PySem.W.Frag} {H : Hp} {h : Hd} {f : Str} {ns : List Str} {j : Nat} {ds : List D} {vs : List V} {x : D} (e : posF f ns = some j) (e2 : nth ds j = some x) (l : ns.length = vs.length) (r : Reps K H h ds vs) : ∃ v, (ns.zip vs).lookup f = some v ∧ Rep K H h x v := posF_ok e e2 l r
theorem d_xf (ok : COk C G k E X) {f : Str} (ha : PE X a (tD X.K E Ta)) (hb : baseOk a = true) : PE X (.Attribute a f pos) (tD X.K E fun ρ h Q Xd => Ta ρ h (fun d h1 => xfR G f d h1 Q) Xd) := by
  refine ⟨fun pins s σ H Q I hx => ?_⟩
  obtain ⟨ρ, h, Qd, Ed, re, hr, t, c0, cx⟩ := hx
  refine attr_of (baseOk_eq hb) (thn (ha.run pins s σ H (fun v H1 => ∃ h1 d1, Frm h H h1 H1 ∧ HRel X.K H1 h1 ∧ Rep X.K H1 h1 d1 v ∧ xfR G f d1 h1 Qd) I ⟨ρ, h, _, Ed, re, hr, t, fun d1 h1 v1 H1 f1 hr1 r1 q1 => ⟨h1, d1, f1, hr1, r1, q1⟩, cx⟩) fun u s1 ⟨v, H1, I1, ru, h1, d1, f1, hr1, rd, q1⟩ => ?_)
  cases d1 with
  | exc c ns ds =>
    obtain ⟨q0, q1⟩ := q1
    split at q1
    · rename_i j e1
      split at q1
      · rename_i y e2
        obtain ⟨T1, T2⟩ := ok.xfl c f q0
        cases rd with
        | exc0 e n => cases e1
        | exc1 e n e3 n3 l r =>
          cases (show u = Value.ref _ from ru)
          obtain ⟨w, l1, rw'⟩ := nth_zip e1 e2 l r
          exact getX T1 T2 I1 e e3 l1 fun u' s' I' ru' => ⟨w, H1, I', ru', (c0.frm f1).here hr1 rw' q1⟩
      · exact q1.elim
    · exact q1.elim
  | _ => exact q1.elim
/-! ### {} -/
theorem d_dnew {pos : Pos} : PE X (.Dict [] [] pos) (tD X.K E fun _ h Q _ => Q (.dct [] []) h) :=
  pe_dnewK.weak fun σ H Q ⟨ρ, h, Qd, Ed, re, hr, t, c0, cx⟩ => fun d hd => c0 _ _ _ _ (Frm.newF hd) (hr.newF hd) (.dct (vs := []) upd_same (hr.gone hd) rfl .nil) t
end
end Y
namespace Y
open PySem PySem.Spec PyProof.Rows L2
/-- a frame of a def: what a raise and a try ask -/
structure SOk (X : Cx) (E : XKs) : Prop where
  hs : X.stack = X.env :: X.outer
  hf : X.env.frame = some X.env.locals
  ex : X.ex = []
  tk : Takes X (fun cls d σ H => E σ cls d H)
section
variable {C : Ctx} {G : Prg} {k : Nat} {E : XKs} {X : Cx} {a b o e : Expr} {es : List Expr} {Ta To Te : TD} {Ts Tk : TDs} {x : Str} {p pos apos : Pos}
theorem no_pass {X : Cx} : Passes (L2.CX X.prog X.w) X (fun _ _ _ => False) := fun _ _ _ _ _ _ _ ⟨_, _, _, _, _, _, _, _, _, _, _, _, h⟩ => h.elim
/-! ### raise -/
theorem ds_raise0 (ok : COk C G k E X) (so : SOk X E) {c : Str} {pos2 : Pos} (hc : (c, none) ∈ C.exs) (hg : glB C.sc c = true) (hn : okName c = true) (ha : PA X (e :: es) (tDs X.K E Ts)) (hs : noStar (e :: es) = true) :
    PS X (.Raise (some (.Call (.Name c p) (e :: es) [] pos)) none pos2) (tDS X.K E fun ρ h _ Xd => Ts ρ h (fun ds h1 => rzR (.cls c) ds h1 (Xd ρ)) (Xd ρ)) := by
  obtain ⟨h1, h2, h3, h4, b, h5⟩ := ok.exs _ hc
  obtain ⟨n1, n2⟩ := noStar_cons hs
  refine (ps_raise ok.calm so.tk (pmk_ownA b.FB h5 h1 h2 (raises_own h3 h4) (gl_of ok hg) ha (okName.dbg hn) (n2 _) (noStar_any n1))).weak fun N σ H ⟨ρ, h, Nd, Ed, re, hr, t, c0, cx⟩ => ?_
  refine ⟨ρ, h, _, Ed ρ, re, hr, t, fun ds h1 vs H1 f1 hr1 r1 q1 => ?_, cx.now re hr⟩
  unfold rzR at q1
  dsimp only at q1
  split at q1
  · cases r1 with
    | cons ra rb =>
      cases rb
      refine ⟨by show 1 ≤ sizeLine; decide, ?_⟩
      exact (cx.frm f1).now (re.frm f1) hr1 _ _ _ _ _ Frm.refl hr1 ⟨rfl, .inl ⟨rfl, rfl, rfl⟩⟩ q1
  · exact q1.elim
theorem del_upds {H : Hp} {a d : Addr} {o1 o2 o3 o4 : HO} (na : H a = none) : upd (del (upd (upd (upd H a o1) d o2) a o3) a) d o4 = upd H d o4 := by
  funext c
  by_cases h1 : c = d
  · rw [h1, upd_same, upd_same]
  · rw [upd_ne h1, upd_ne h1]
    by_cases h2 : c = a
    · rw [h2, del_same, na]
    · rw [del_ne h2, upd_ne h2, upd_ne h1, upd_ne h2]
theorem ds_raise1 (ok : COk C G k E X) (so : SOk X E) {c f : Str} {pos2 : Pos} (hf : f ≠ Str.empty) (hc : (c, some f) ∈ C.exs) (hg : glB C.sc c = true) (hn : okName c = true) (ha : PA X (e :: es) (tDs X.K E Ts)) (hs : noStar (e :: es) = true) :
    PS X (.Raise (some (.Call (.Name c p) (e :: es) [] pos)) none pos2) (tDS X.K E fun ρ h _ Xd => Ts ρ h (fun ds h1 => rzR (.fld c f) ds h1 (Xd ρ)) (Xd ρ)) := by
  obtain ⟨hm, hx⟩ := ok.exs _ hc
  obtain ⟨b, av, fd, ps, kf, T, iC, tI, hk, F, hB⟩ := hx hf
  obtain ⟨n1, n2⟩ := noStar_cons hs
  refine (ps_raise ok.calm so.tk (pmk_B T iC tI F (ok.room.mono (show kf + 1 ≤ k by omega)) hB no_pass (gl_of ok hg) hm ha (okName.dbg hn) (n2 _) (noStar_any n1))).weak fun N σ H ⟨ρ, h, Nd, Ed, re, hr, t, c0, cx⟩ => ?_
  refine ⟨ρ, h, _, Ed ρ, re, hr, t, fun ds h1 vs H1 f1 hr1 r1 q1 => ?_, cx.now re hr⟩
  unfold rzR at q1
  dsimp only at q1
  split at q1
  · rename_i d0
    cases r1 with
    | @cons _ _ v _ ra rb =>
      cases rb
      refine ⟨by show 1 ≤ 1000; decide, fun a na => ⟨a, v, rfl, upd_same, fun d nd ne => ⟨rfl, d, [(f, v)], upd_same, ?_, ?_, ?_⟩⟩⟩
      · rw [upd_ne ne, upd_same]
      · rw [upd_ne ne] at nd; exact nd
      · rw [del_upds na]
        rw [upd_ne ne] at nd
        exact (cx.frm f1).now (re.frm f1) hr1 _ _ _ _ _ (Frm.newF nd) (hr1.newF nd) ⟨rfl, .inr ⟨d, [v], rfl, upd_same, hr1.gone nd, rfl, .cons (ra.frm (Frm.newF nd)) .nil⟩⟩ q1
  · exact q1.elim
/-! ### try: body / except C as n: m = n -/
theorem RelE.no {K : PySem.W.Frag} {H : Hp} {h : Hd} {ρ : DEnv} {σ : L2.St} (r : RelE K H h ρ σ) (i : Nat) : RelE K H h (noE ρ i) (σ.set i none) := by
  rw [noE_set]
  refine ⟨by simp [r.len], fun j d z => ?_⟩
  by_cases hj : i = j
  · subst hj
    by_cases hi : i < ρ.length
    · rw [List.getElem?_set_self hi] at z; cases z
    · rw [List.getElem?_eq_none (by simp; omega)] at z; cases z
  · rw [List.getElem?_set_ne hj] at z
    obtain ⟨u, e1, r1⟩ := r.get j d z
    exact ⟨u, by rw [List.getElem?_set_ne hj]; exact e1, r1⟩
theorem tr_cok (ok : COk C G k E X) {pn : List (Addr × Obj)} {xe : Value → Shared → Prop} {W : WX} (tk : Takes (X.tr pn xe) W) (po : PassesOwn (model X.prog X.w) X.A X.env xe) : COk C G k (fun σ cls d H => W cls d σ H) (X.tr pn xe) where
  N := ok.N
  nd := ok.nd
  sc := ok.sc
  kind := ok.kind
  fnc := ok.fnc
  calm := ok.calm
  room := ok.room
  free := ok.free
  cns := ok.cns
  fns := fun f i e => ⟨⟨(ok.fns f i e).1.ok⟩, (ok.fns f i e).2⟩
  fl := ok.fl
  cls := ok.cls
  oc := ok.oc
  ock := ok.ock
  nms := ok.nms
  exs := ok.exs
  sub := ok.sub
  subB := ok.subB
  xfl := ok.xfl
  px := fun σ => passAt tk σ
  po := po
theorem ds_tryK (ok : COk C G k E X) (so : SOk X E) {c n m : Str} {i j : Nat} {body : List Stmt} {np pos' mp qp sp : Pos} {V : TDS} (hc : c ∈ C.clss ∨ ∃ o, (c, o) ∈ C.exs) (hg : glB C.sc c = true) (hn : okName c = true) (dn : okName n = true)
    (hi : C.N[i]? = some n) (hln : C.sc.names.lookup n = some .local) (hj : C.N[j]? = some m) (hlm : C.sc.names.lookup m = some .local) (hij : i ≠ j)
    (hb : ∀ (E' : XKs) (pn : List (Addr × Obj)) (xe : Value → Shared → Prop), COk C G k E' (X.tr pn xe) → SOk (X.tr pn xe) E' → PSs (X.tr pn xe) body (tDS X.K E' V)) :
    PS X (.Try body [.ExceptHandler (some (.Name c np)) (some n) [.Assign [.Name m mp] (.Name n qp) sp] pos'] [] [] pos) (tDS X.K E fun ρ h N Xd => V ρ h N fun ρ1 x h1 => match G.sub x.cls c with
      | some true => stK ρ1 j (.exc x.cls x.ns x.ds) fun ρ2 => N.nx (noE ρ2 i) h1
      | some false => Xd ρ1 x h1
      | none => False) := by
  have T := ok.nms c hc
  refine (ps_try_keep (tb := fun W => tDS X.K (fun σ cls d H => W cls d σ H) V) so.hs so.hf so.ex (by rw [ok.N]; exact ok.nd) (by rw [ok.N]; exact hi) (by unfold PySem.Env.kindOf; rw [ok.sc]; exact hln) (by rw [ok.N]; exact hj) (by unfold PySem.Env.kindOf; rw [ok.sc]; exact hlm) hij dn
    ⟨gl_of ok hg, okName.dbg hn, .inl T.mg⟩ so.tk (fun W pn xe tk po => hb _ pn xe (tr_cok ok tk po) ⟨so.hs, so.hf, so.ex, tk⟩)).weak fun N σ H ⟨ρ, h, Nd, Ed, re, hr, t, c0, cx⟩ => ?_
  refine ⟨ρ, h, Nd, _, re, hr, t, c0, fun ρ1 h1 σ1 H1 f1 hr1 re1 x h2 cls dx H2 f2 hr2 rx q => ?_⟩
  dsimp only at q
  cases e : G.sub x.cls c with
  | none => rw [e] at q; exact q.elim
  | some r =>
    rw [e] at q
    obtain ⟨s1, s2, s3⟩ := ok.sub _ _ _ e
    refine ⟨r, by rw [rx.cls]; exact s1, fun hr0 a na => ?_, fun hr0 => ?_⟩
    · subst hr0
      dsimp only at q
      rw [stK_eq] at q
      have fn : Frm h2 H2 h2 (upd H2 a (xo a cls dx)) := Frm.newF na
      have f := (f1.trans f2).trans fn
      have rp : Rep X.K (upd H2 a (xo a cls dx)) h2 (.exc x.cls x.ns x.ds) (.ref a) := by
        obtain ⟨xc, xn, xd⟩ := x
        have e1 := rx.cls
        rcases rx.dx with ⟨e2, e3, e4⟩ | ⟨d, vs, e2, e3, e4, e5, e6⟩
        · dsimp only at e1 e2 e3
          subst e1 e2 e3 e4
          exact .exc0 upd_same (hr2.gone na)
        · dsimp only at e1 e3 e5 e6
          subst e1 e2
          have ne : d ≠ a := fun z => by rw [z, na] at e3; cases e3
          exact .exc1 upd_same (hr2.gone na) (by rw [upd_ne ne]; exact e3) e4 e5 (e6.frm fn)
      exact c0.nx _ h2 _ _ f (hr2.newF na) ((((re1.frm f2).frm fn).st rp j).no i) q
    · subst hr0
      exact (cx.frm (f1.trans f2)).now (re1.frm f2) hr2 x h2 cls dx H2 Frm.refl hr2 rx q
end
/-! ### an exception's own __init__ -/
def vInit : List Stmt → Option (Str × Str × Str)
  | [.Expr (.Call (.Attribute (.Name w _) i ap) [.Name s1 _, .Constant (.str _) _ _] [] cp) _, .Assign [.Attribute (.Name s2 _) f _] (.Name n _) _] => if i = "__init__" ∧ s1 = "self" ∧ s2 = "self" ∧ (ap.endLine == cp.line) = true then some (w, f, n) else none
  | _ => none
theorem vInit_eq {b : List Stmt} {w f n : Str} (h : vInit b = some (w, f, n)) : ∃ p1 ap p2 t j p3 cp p4 p5 p6 p7 p8, b = [.Expr (.Call (.Attribute (.Name w p1) "__init__" ap) [.Name "self" p2, .Constant (.str t) j p3] [] cp) p4, .Assign [.Attribute (.Name "self" p5) f p6] (.Name n p7) p8] ∧ (ap.endLine == cp.line) = true := by
  unfold vInit at h
  split at h
  · split at h
    · rename_i q
      obtain ⟨q1, q2, q3, q4⟩ := q
      cases h
      subst q1 q2 q3
      exact ⟨_, _, _, _, _, _, _, _, _, _, _, _, rfl, q4⟩
    · cases h
  · cases h
theorem init_ok {P : Program} {w : World} {K : PySem.W.Frag} {mg : Str → Option Value} {base : Heap} {x qual : Str} {params : Arguments} {body : List Stmt} {scope : Scope} {dvs : List V} {kws : List (Str × V)} {a : Addr} {fd : FuncData} {b : Bs} {W f n : Str} {c : Addr}
    (F : FunD K x qual params body scope dvs kws a fd) (hsc : C8.scC ["self", n] ["self", n] scope = true) (hv : vInit body = some (W, f, n)) (hW : scope.names.lookup W = some .globalImplicit) (dW : okName W = true) (v1 : visB scope "self" = true) (v2 : visB scope n = true) (dn : okName n = true) (hm : mg W = some (.ref (He.ga K W))) (I : IniB b K (He.ga K W)) (T : ExB b K c) (hno : PySem.W.findIn K (.ref c) f = some none) :
    FnOk P w K mg base (L2.CX P w) 1 a fd ["self", n] (spX K b c f) := by
  have Sc := C8.fnScope_by hsc
  obtain ⟨p1, ap, p2, t, j, p3, cp, p4, p5, p6, p7, p8, rfl, hl⟩ := vInit_eq hv
  refine F.ok (k := 0) Sc (fun vs H Q E h => ?_) (fun cdv A outer s H vs Q E hr h => ?_)
  · obtain ⟨a, v, rfl, _⟩ := h
    rfl
  · generalize hX : cxOf (L2.CX P w) P w K mg base ["self", n] qual scope a cdv A outer s H E = X
    have eN : X.N = [("self" : Str), n] := by subst hX; rfl
    have eS : X.env.scope = scope := by subst hX; rfl
    have eK : X.K = K := by subst hX; rfl
    have eM : X.mg = mg := by subst hX; rfl
    have vis : ∀ y, visB scope y = true → Vis X.env.scope y := fun y hy => by
      unfold visB at hy
      unfold Vis
      rw [eS]
      split at hy
      · rename_i e; exact .inl e
      · rename_i e; exact .inr (.inl e)
      · rename_i e; exact .inr (.inr e)
      · cases hy
    have pS : ∀ q, PE X (.Name "self" q) (tVar 0) := fun q => pe_var (by rw [eN]; rfl) (vis _ v1)
    have pN : ∀ q, PE X (.Name n q) (tVar 1) := fun q => pe_var (by rw [eN]; rfl) (vis _ v2) (okName.dbg dn) (okName.cd dn)
    have st1 : starEach [.Name "self" p2, .Constant (.str t) j p3] X.env = (false, eval (.Name "self" p2) X.env) :: starEach [.Constant (.str t) j p3] X.env := rfl
    have c1 := pe_iniB (X := X) (b := b) (pl := plainOf (.Name W p1) X.env) (p1 := p1) (p2 := ap) (pos := cp) (x := W) (W := He.ga K W) (by unfold Gl PySem.Env.kindOf; rw [eS]; exact hW) (by rw [eM]; exact hm) (by rw [eK]; exact I) (pa_cons (pS p2) (pa_cons pe_str pa_nil rfl) st1) (mcall_eq rfl rfl hl) st1 rfl (okName.dbg dW)
    have c2 := ps_ostB (X := X) (b := b) (f := f) (p' := p6) (pos := p8) (pS p5) (pN p7) rfl
    refine ⟨_, pss_cons (ps_expr c1) (pss_one c2), ?_⟩
    obtain ⟨a0, v, rfl, e, q⟩ := h
    rw [eK]
    refine ⟨.ref a0, rfl, ⟨a0, c, [.str t], rfl, by show 1 ≤ 1000; decide, T, e, ?_⟩⟩
    exact ⟨v, rfl, .ref a0, rfl, a0, c, rfl, T, hno, e, q⟩
end Y
namespace Y
open PySem PySem.Spec PyProof.Rows L2
/-! ### more handlers of the same suite behind one try -/
structure Hc where
  x : Str
  c : Value
  np : Pos
  pos : Pos
  mp : Pos
  qp : Pos
  sp : Pos
def hdlS (n m : Str) (l : List Hc) : List ExceptHandler := l.map fun t => .ExceptHandler (some (.Name t.x t.np)) (some n) [.Assign [.Name m t.mp] (.Name n t.qp) t.sp] t.pos
def wKs (K : PySem.W.Frag) (i j : Nat) (Wout : WX) (D : L2.Ends) : List Hc → WX
  | [] => Wout
  | t :: l => fun cls d σ H => ∃ b, PySem.W.exmOne K cls t.c = some b ∧ (b = true → ∀ a, H a = none → D.nx ((σ.set j (some (.ref a))).set i none) (upd H a (xo a cls d))) ∧ (b = false → wKs K i j Wout D l cls d σ H)
theorem ps_try_keeps {X : Cx} {n m : Str} {hh : Hc} {hl : List Hc} {i j : Nat} {body : List Stmt} {pos : Pos} {tb : WX → TS} {Wout : WX} (hs : X.stack = X.env :: X.outer) (hf : X.env.frame = some X.env.locals) (hex : X.ex = []) (hN : X.N.Nodup) (hi : X.N[i]? = some n) (hln : X.env.kindOf n = some .local)
    (hj : X.N[j]? = some m) (hlm : X.env.kindOf m = some .local) (hij : i ≠ j) (dn : okName n = true) (hc : ∀ t ∈ hh :: hl, Names X t.x t.c) (tk : Takes X Wout)
    (hb : ∀ (W : WX) (pn : List (Addr × Obj)) (xe : Value → Shared → Prop), Takes (X.tr pn xe) W → PassesOwn (model X.prog X.w) X.A X.env xe → PSs (X.tr pn xe) body (tb W)) :
    PS X (.Try body (hdlS n m (hh :: hl)) [] [] pos) (fun D σ H => tb (wKs X.K i j Wout D (hh :: hl)) D σ H) := by
  refine ⟨fun pins s σ H D I h => ?_⟩
  have ok := I.ok
  have hfr : X.A.frames = some (X.env :: X.outer) := by rw [ok.frames, hs]
  have hloc : L2.Loc X.env.scope n := .inl hln
  have hlocm : L2.Loc X.env.scope m := .inl hlm
  refine wpAny_Try_except ?_
  refine wpAny_mono ((hb (wKs X.K i j Wout D (hh :: hl)) (X.pn ++ pins) (fun e s₁ => wpAny (model X.prog X.w) X.A (noteFrame e X.env) (fun _ s₂ => wpAny (model X.prog X.w) X.A (setFlight e none) (fun _ s₃ =>
    wpAny (model X.prog X.w) X.A (handleBy e X.env (hdlS n m (hh :: hl))) (SP X pins D) X.xe s₃) X.xe s₂) X.xe s₁) (fun u s' xx => ?_) PassesOwn.looking).run [] s σ H D (I.toTry _) h) (fun f s1 hsp => ?_) (fun e s1 he => he)
  · obtain ⟨a, B, sI, pins', σ', H', cls, d, rfl, J', nb, up, sky, na, os, ag, hq⟩ := xx
    have J : Inv X pins σ' H' sI := J'.ofTry ok
    have sky' : Sky B (X.env :: X.outer) a (Zc cls d) X.env.locals s'.heap := by rw [← hs]; exact sky
    show wpAny (model X.prog X.w) X.A (noteFrame (.ref a) X.env) _ _ _
    refine Sky.land Zc.steady hfr hf sky' fun h3 fl3 up3 => ?_
    have J3 : Inv X pins σ' H' { s' with heap := h3 } := J.landed nb fl3.1 (up.trans up3) os ag
    obtain ⟨oe3, vs3, he3, hz3, hd3⟩ := fl3.there
    have notFr : ∀ {h : Heap} {o : Obj} {vs : Array Value}, h.FunFrames B (X.env :: X.outer) → h.get? a = some o → o.data = .fields vs → a ∉ frs (X.env :: X.outer) := fun {h o vs} ff e dd hm => by
      obtain ⟨_, o', e', hnf⟩ := ff.mem hm
      rw [e] at e'; cases e'
      exact hnf _ dd
    have nfr := notFr fl3.2.2.1 he3 hd3
    have nI : sI.heap.get? a = none := by
      cases q : sI.heap.get? a with
      | none => rfl
      | some o =>
        have z := nb a o q (by rw [hs]; exact nfr)
        rw [fl3.2.1] at z; cases z
    have n0 : X.s_0.heap.get? a = none := by
      cases q : X.s_0.heap.get? a with
      | none => rfl
      | some o =>
        obtain ⟨o', z⟩ := J.base.there a o q (by rw [hex]; exact fun z => nomatch z)
        rw [nI] at z; cases z
    have np : ∀ p ∈ X.pn ++ pins, p.1 ≠ a := fun p hp z => by
      have e := (J.pin p hp).1
      rw [z, nI] at e; cases e
    have nL : a ≠ X.env.locals := fun z => nfr (List.mem_filterMap.mpr ⟨X.env, List.mem_cons_self, by rw [hf, z]⟩)
    have nF : a ∉ X.fs := fun hm => by
      obtain ⟨e, he, q⟩ := List.mem_filterMap.mp hm
      exact nfr (List.mem_filterMap.mpr ⟨e, List.mem_cons_of_mem _ he, q⟩)
    have S3 := J3.suite he3 hd3 na nL nF
    have go : ∀ l : List Hc, (∀ t ∈ l, Names X t.x t.c) → wKs X.K i j Wout D l cls d σ' H' → wpAny (model X.prog X.w) X.A (handleBy (.ref a) X.env (hdlS n m l)) (SP X pins D) X.xe { s' with heap := h3 } := by
      intro l
      induction l with
      | nil =>
        intro hc hq
        show wpAny _ X.A (handleBy (.ref a) X.env []) _ _ _
        refine wpAny_handleBy_nil ?_
        obtain ⟨k1, k2, k3, oe, vs, T, oT, ts', he, hz, hd, h1, hr⟩ := id fl3
        unfold PySem.passOn
        refine wpAny_bind (wpAny_field he hd h1 ?_)
        rw [if_neg (show ¬ ((Value.ref T == Value.none) = true) from by simp)]
        have fin : wpAny (model X.prog X.w) X.A (setFlight (.ref a) X.env.frame) (fun _ s4 => wpAny (model X.prog X.w) X.A (throw (.ref a) : Sem Flow) (SP X pins D) X.xe s4) X.xe { s' with heap := h3 } := by
          rw [hf]
          refine HandSPX.setFlight_upZ fl3 fun h4 hh4 up4 => wpAny_throw (tk _ _ ?_)
          exact ⟨a, B, sI, pins, σ', H', cls, d, rfl, J, nb, (up.trans up3).trans up4, .inr (.inr (by rw [hs]; exact hh4)), na, os, ag, hq⟩
        first
          | exact wpAny_bind (wpAny_pure (wpAny_bind fin))
          | exact wpAny_bind fin
      | cons t l ih =>
        intro hc hq
        obtain ⟨b, hb1, hyes, hno⟩ := hq
        show wpAny _ X.A (handleBy (.ref a) X.env (.ExceptHandler (some (.Name t.x t.np)) (some n) [.Assign [.Name m t.mp] (.Name n t.qp) t.sp] t.pos :: hdlS n m l)) _ _ _
        refine wpAny_handleBy_cons (codeAny_handlers_test ?_) (by intro q; cases q)
        have LT : PySem.W.Looks (model X.prog X.w) h3 (typeOf (.ref a)) cls := fun A Q E s k q => wpAny_typeOf_ref (k _ _ he3) (by rw [hz3.1]; exact q)
        have LM := PySem.W.exm_one (M := model X.prog X.w) (J3.kIn) LT hb1
        have test : ∀ {Q : Value → Shared → Prop} {E : Value → Shared → Prop}, Q t.c { s' with heap := h3 } → wpAny (model X.prog X.w) (X.A.mark (some (.ref a))) (eval (.Name t.x t.np) X.env) Q E { s' with heap := h3 } := fun {Q E} q => by
          obtain ⟨hg, hdbg, hm | ⟨hm, hv, hnn⟩⟩ := hc t List.mem_cons_self
          · exact ld_glob (X := X.suite a ((a, oe3) :: (X.pn ++ pins))) S3 hg hm q hdbg
          · exact ld_blt (X := X.suite a ((a, oe3) :: (X.pn ++ pins))) S3 hg hm hv q hnn hdbg
        refine test (LM.here ?_)
        cases b with
        | true =>
          refine codeAny_handlers_suite_as ?_
          refine HandSPX.lands_againZ fl3 fun h4 fl4 up4 => ?_
          have J4 : Inv X pins σ' H' { s' with heap := h4 } := J.landed nb fl4.1 ((up.trans up3).trans up4) os ag
          obtain ⟨oe4, vs4, he4, hz4, hd4⟩ := fl4.there
          have S4 := J4.suite he4 hd4 na nL nF
          refine store_ok (X := X.suite a ((a, oe4) :: (X.pn ++ pins))) (v := .ref a) S4 hN hi hloc rfl (fun s5 S5 => ?_) (.inr hln)
          have su : PSs (X.suite a ((a, oe4) :: (X.pn ++ pins))) [.Assign [.Name m t.mp] (.Name n t.qp) t.sp] (tAsg (tVar i) (gName j)) :=
            pss_one (ps_asg (pe_var hi (.inl hln) (okName.dbg dn) (okName.cd dn)) (pg_name hN hj hlocm (.inr hlm)))
          have len := S5.len
          have hiN : i < X.N.length := (List.getElem?_eq_some_iff.mp hi).1
          have gi : (σ'.set i (some (V.ref a)))[i]? = some (some (.ref a)) := by
            rw [List.getElem?_set_self]
            have : (σ'.set i (some (V.ref a))).length = X.N.length := len
            rw [List.length_set] at this
            rw [this]; exact hiN
          refine wpAny_mono (su.run [] s5 _ H' { nx := fun σ6 H6 => σ6 = (σ'.set i (some (.ref a))).set j (some (.ref a)) ∧ H6 = H', rt := fun _ _ => False, bk := fun _ _ => False, ct := fun _ _ => False } S5 ⟨.ref a, gi, rfl, rfl⟩) (fun f s6 hsp => ?_) (fun _ _ z => False.elim z)
          cases f with
          | next =>
            obtain ⟨σ6, H6, S6, e1, e2⟩ := hsp
            subst e1 e2
            have S6' : Inv X ((a, oe4) :: pins) ((σ'.set i (some (.ref a))).set j (some (.ref a))) H6 s6 :=
              ⟨ok, S6.os, S6.bare, S6.base, S6.loc, S6.cell, S6.free, S6.freeC, fun p hp => S6.pin p (by
                rw [List.append_nil]
                rcases List.mem_append.mp hp with q | q
                · exact List.mem_cons_of_mem _ (List.mem_append_left _ q)
                · rcases List.mem_cons.mp q with q | q
                  · rw [q]; exact List.mem_cons_self
                  · exact List.mem_cons_of_mem _ (List.mem_append_right _ q)), S6.hok, S6.len⟩
            refine gone_ok S6' hN hi hln fun s7 J7 => ⟨_, _, Inv.held J7 n0 np hz4 ⟨_, hd4⟩, ?_⟩
            have e : (((σ'.set i (some (V.ref a))).set j (some (V.ref a))).set i none) = ((σ'.set j (some (.ref a))).set i none) := by
              rw [List.set_comm _ _ hij, List.set_set]
            rw [e]
            exact hyes rfl a na
          | brk => obtain ⟨_, _, _, z⟩ := hsp; exact z.elim
          | cont => obtain ⟨_, _, _, z⟩ := hsp; exact z.elim
          | ret u => obtain ⟨_, _, _, _, _, z⟩ := hsp; exact z.elim
        | false => exact ih (fun t' h' => hc t' (List.mem_cons_of_mem _ h')) (hno rfl)
    exact go _ hc hq
  · cases f with
    | next =>
      obtain ⟨σ', H', J', q⟩ := hsp
      exact wpAny_execs_nil ⟨σ', H', J'.ofTry ok, q⟩
    | brk =>
      obtain ⟨σ', H', J', q⟩ := hsp
      exact ⟨σ', H', J'.ofTry ok, q⟩
    | cont =>
      obtain ⟨σ', H', J', q⟩ := hsp
      exact ⟨σ', H', J'.ofTry ok, q⟩
    | ret u =>
      obtain ⟨v, σ', H', J', r, q⟩ := hsp
      exact ⟨v, σ', H', J'.ofTry ok, r, q⟩
end Y
namespace Y
open PySem PySem.Spec PyProof.Rows L2
abbrev Hs := Str × Pos × Pos × Pos × Pos × Pos
def toHc (K : PySem.W.Frag) (t : Hs) : Hc := ⟨t.1, .ref (He.ga K t.1), t.2.1, t.2.2.1, t.2.2.2.1, t.2.2.2.2.1, t.2.2.2.2.2⟩
def vHd (n m : Str) : ExceptHandler → Option Hs
  | .ExceptHandler (some (.Name c np)) (some n') [.Assign [.Name m' mp] (.Name n2 qp) sp] pos => if n' = n ∧ m' = m ∧ n2 = n then some (c, np, pos, mp, qp, sp) else none
  | _ => none
def vHds (n m : Str) : List ExceptHandler → Option (List Hs)
  | [] => some []
  | h :: r => match vHd n m h, vHds n m r with
    | some a, some l => some (a :: l)
    | _, _ => none
theorem vHd_eq {n m : Str} {K : PySem.W.Frag} {h : ExceptHandler} {t : Hs} (e : vHd n m h = some t) : h = .ExceptHandler (some (.Name (toHc K t).x (toHc K t).np)) (some n) [.Assign [.Name m (toHc K t).mp] (.Name n (toHc K t).qp) (toHc K t).sp] (toHc K t).pos := by
  unfold vHd at e
  split at e
  · split at e
    · rename_i q
      obtain ⟨q1, q2, q3⟩ := q
      cases e
      subst q1 q2 q3
      rfl
    · cases e
  · cases e
theorem vHds_eq {n m : Str} {K : PySem.W.Frag} : ∀ {hs : List ExceptHandler} {l : List Hs}, vHds n m hs = some l → hs = hdlS n m (l.map (toHc K))
  | [], l, e => by cases e; rfl
  | h :: r, l, e => by
    unfold vHds at e
    split at e
    · rename_i a l' e1 e2
      cases e
      have h1 := vHd_eq (K := K) e1
      have h2 := vHds_eq (K := K) e2
      rw [h1, h2]; rfl
    · cases e
section
variable {C : Ctx} {G : Prg} {k : Nat} {E : XKs} {X : Cx} {pos : Pos}
theorem hd_ok (ok : COk C G k E X) {i j : Nat} {Nd : EndsD} {N : L2.Ends} {Ed : QXe} {h0 h2 : Hd} {H0 H2 : Hp} {ρ1 : DEnv} {σ1 : L2.St} {x : XV} {cls : Value} {dx : Option Addr} (c0 : ClN X.K h0 H0 Nd N) (cx : ClXe X.K h0 H0 Ed E) (f : Frm h0 H0 h2 H2) (re : RelE X.K H2 h2 ρ1 σ1) (hr2 : HRel X.K H2 h2) (rx : RepX X.K H2 h2 x cls dx) :
    ∀ (l : List Hs), hdR G i j Nd.nx Ed (l.map (·.1)) ρ1 x h2 → wKs X.K i j (fun cls d σ H => E σ cls d H) N (l.map (toHc X.K)) cls dx σ1 H2
  | [], q => cx ρ1 h2 σ1 H2 f hr2 re x h2 cls dx H2 Frm.refl hr2 rx q
  | t :: l, q => by
    have q : match G.sub x.cls t.1 with
      | some true => stK ρ1 j (.exc x.cls x.ns x.ds) fun ρ2 => Nd.nx (noE ρ2 i) h2
      | some false => hdR G i j Nd.nx Ed (l.map (·.1)) ρ1 x h2
      | none => False := q
    cases e : G.sub x.cls t.1 with
    | none => rw [e] at q; exact q.elim
    | some r =>
      rw [e] at q
      obtain ⟨s1, s2, s3⟩ := ok.sub _ _ _ e
      refine ⟨r, by rw [rx.cls]; exact s1, fun hr0 a na => ?_, fun hr0 => ?_⟩
      · subst hr0
        dsimp only at q
        rw [stK_eq] at q
        have fn : Frm h2 H2 h2 (upd H2 a (xo a cls dx)) := Frm.newF na
        have rp : Rep X.K (upd H2 a (xo a cls dx)) h2 (.exc x.cls x.ns x.ds) (.ref a) := by
          obtain ⟨xc, xn, xd⟩ := x
          have e1 := rx.cls
          rcases rx.dx with ⟨e2, e3, e4⟩ | ⟨d, vs, e2, e3, e4, e5, e6⟩
          · dsimp only at e1 e2 e3
            subst e1 e2 e3 e4
            exact .exc0 upd_same (hr2.gone na)
          · dsimp only at e1 e3 e5 e6
            subst e1 e2
            have ne : d ≠ a := fun z => by rw [z, na] at e3; cases e3
            exact .exc1 upd_same (hr2.gone na) (by rw [upd_ne ne]; exact e3) e4 e5 (e6.frm fn)
        exact c0.nx _ h2 _ _ (f.trans fn) (hr2.newF na) (((re.frm fn).st rp j).no i) q
      · subst hr0
        exact hd_ok ok c0 cx f re hr2 rx l q
theorem ds_tryL (ok : COk C G k E X) (so : SOk X E) {n m : Str} {i j : Nat} {body : List Stmt} {V : TDS} {t : Hs} {l : List Hs} (hc : ∀ u ∈ t :: l, (u.1 ∈ C.clss ∨ ∃ o, (u.1, o) ∈ C.exs) ∧ glB C.sc u.1 = true ∧ okName u.1 = true) (dn : okName n = true)
    (hi : C.N[i]? = some n) (hln : C.sc.names.lookup n = some .local) (hj : C.N[j]? = some m) (hlm : C.sc.names.lookup m = some .local) (hij : i ≠ j)
    (hb : ∀ (E' : XKs) (pn : List (Addr × Obj)) (xe : Value → Shared → Prop), COk C G k E' (X.tr pn xe) → SOk (X.tr pn xe) E' → PSs (X.tr pn xe) body (tDS X.K E' V)) :
    PS X (.Try body (hdlS n m ((t :: l).map (toHc X.K))) [] [] pos) (tDS X.K E fun ρ h N Xd => V ρ h N (hdR G i j N.nx Xd ((t :: l).map (·.1)))) := by
  refine (ps_try_keeps (tb := fun W => tDS X.K (fun σ cls d H => W cls d σ H) V) so.hs so.hf so.ex (by rw [ok.N]; exact ok.nd) (by rw [ok.N]; exact hi) (by unfold PySem.Env.kindOf; rw [ok.sc]; exact hln) (by rw [ok.N]; exact hj) (by unfold PySem.Env.kindOf; rw [ok.sc]; exact hlm) hij dn
    (fun u hu => ?_) so.tk (fun W pn xe tk po => hb _ pn xe (tr_cok ok tk po) ⟨so.hs, so.hf, so.ex, tk⟩)).weak fun N σ H ⟨ρ, h, Nd, Ed, re, hr, t, c0, cx⟩ => ?_
  · obtain ⟨v, hv, rfl⟩ := List.mem_map.mp (show u ∈ (t :: l).map (toHc X.K) from hu)
    obtain ⟨z1, z2, z3⟩ := hc v hv
    exact ⟨gl_of ok z2, okName.dbg z3, .inl (ok.nms _ z1).mg⟩
  · refine ⟨ρ, h, Nd, _, re, hr, t, c0, fun ρ1 h1 σ1 H1 f1 hr1 re1 x h2 cls dx H2 f2 hr2 rx q => ?_⟩
    exact hd_ok ok c0 cx (f1.trans f2) (re1.frm f2) hr2 rx (_ :: _) q
end
end Y
namespace Y
open PySem PySem.Spec PyProof.Rows L2

/-! ### the small syntax against the text -/
mutual
def Tg.sl : Tg → List Nat
  | .nm i => [i]
  | .tp ts => ts.sl
  | .sb _ _ => []
def Tgs.sl : Tgs → List Nat
  | .nil => []
  | .cons t r => t.sl ++ r.sl
end
def restB (o : BoolOp) (y : Expr) (r : List Expr) (p : Pos) : Expr := match r with
  | [] => y
  | _ :: _ => .BoolOp o (y :: r) p
def ownN (N : List Str) (own : List Nat) : List (Str × Nat) := own.map fun i => ((N[i]?).getD "", i)
theorem ownN_snd (N : List Str) (own : List Nat) : (ownN N own).map (·.2) = own := by
  unfold ownN
  rw [List.map_map]
  exact List.map_id _
def lineB : Expr → Bool
  | .Call (.Attribute _ _ p) _ _ q => lineOk p q
  | _ => false
def sameLen {α β : Type} : List α → List β → Bool
  | [], [] => true
  | _ :: r, _ :: s => sameLen r s
  | _, _ => false
def isNilE : Es → Bool
  | .nil => true
  | _ => false
theorem isNilE_eq {as : Es} (h : isNilE as = true) : as = .nil := by cases as <;> first | rfl | cases h
def nmB (C : Ctx) (c : Str) : Bool := decide (c ∈ C.clss) || C.exs.any fun p => decide (p.1 = c)
theorem nmB_ok {C : Ctx} {c : Str} (h : nmB C c = true) : c ∈ C.clss ∨ ∃ o, (c, o) ∈ C.exs := by
  unfold nmB at h
  rcases Bool.or_eq_true_iff.mp h with h | h
  · exact .inl (of_decide_eq_true h)
  · obtain ⟨⟨p, o⟩, h1, h2⟩ := List.any_eq_true.mp h
    have h2 : p = c := of_decide_eq_true h2
    exact .inr ⟨o, h2 ▸ h1⟩
def isDict0 : Expr → Bool
  | .Dict [] [] _ => true
  | _ => false
theorem isDict0_eq {e : Expr} (h : isDict0 e = true) : ∃ p, e = .Dict [] [] p := by
  unfold isDict0 at h
  split at h
  · exact ⟨_, rfl⟩
  · cases h
def optE (l : E) : Option Expr → Option Expr → Bool := fun _ _ => true
mutual
def mE (C : Ctx) : E → Expr → Bool
  | .non, e => decide (vConst e = some .none)
  | .bl b, e => decide (vConst e = some (.bool b))
  | .int i, e => decide (vConst e = some (.int i))
  | .str x, e => decide (vConst e = some (.str x))
  | .loc i, e => match vName e with
    | some x => mVar C i x
    | none => false
  | .glo k, e => match vName e with
    | some x => mGlo C k x
    | none => false
  | .op o a b, e => match vBin e with
    | some (ea, oo, eb) => decide (opO o = oo) && (mE C a ea && mE C b eb)
    | none => false
  | .neg a, e => match vUn e with
    | some (u, ea) => decide (u = .USub) && mE C a ea
    | none => false
  | .cmp c a b, e => match vCmp e with
    | some (ea, o, eb) => decide (o = c) && (!(behindInMarks c eb) && (mE C a ea && mE C b eb))
    | none => false
  | .chn c c' a b d, e => match vChn e with
    | some (ea, o, eb, o', ed) => decide (o = c) && (decide (o' = c') && (!(lastMarks [c, c'] [eb, ed]) && (mE C a ea && (mE C b eb && mE C d ed))))
    | none => false
  | .andE a b, e => match vBool e with
    | some (o, x, y, r, p) => decide (o = .And) && (mE C a x && mE C b (restB .And y r p))
    | none => false
  | .orE a b, e => match vBool e with
    | some (o, x, y, r, p) => decide (o = .Or) && (mE C a x && mE C b (restB .Or y r p))
    | none => false
  | .notE a, e => match vUn e with
    | some (u, ea) => decide (u = .Not) && mE C a ea
    | none => false
  | .ife c a b, e => match vIf e with
    | some (ec, ea, eb) => mE C c ec && (mE C a ea && mE C b eb)
    | none => false
  | .tup es, e => match vTup e with
    | some xs => mEs C es xs
    | none => false
  | .lst _ es, e => match vLst e with
    | some xs => mEs C es xs
    | none => false
  | .ix a i, e => match vSub e with
    | some (ea, ei) => !(isSlice ei) && (mE C a ea && mE C i ei)
    | none => false
  | .slc a l u, e => match vSlice e with
    | some (ea, el, eu) => mE C a ea && ((match el with
      | none => isNonE l
      | some x => !(isNonE l) && mE C l x) && (match eu with
      | none => isNonE u
      | some x => !(isNonE u) && mE C u x))
    | none => false
  | .rev a, e => match vRev e with
    | some ea => mE C a ea
    | none => false
  | .bif b as, e => match vCall e with
    | some (x, xs, ks) => decide (x = b.nm) && (mBlt C b.nm && (ks.isEmpty && (!(xs.isEmpty) && mEs C as xs)))
    | none => false
  | .isi a t, e => match vCall e with
    | some (x, [ea, et], []) => decide (x = "isinstance") && (decide (vName et = some t.nm) && (mBlt C "isinstance" && (mBlt C t.nm && (noStar [ea] && mE C a ea))))
    | _ => false
  | .call f s as kas, e => match vCall e with
    | some (x, xs, ks) => (match C.fns.lookup f with
      | some i => (match i.shapes[s]? with
        | some sh => i.own.isNone && (decide (i.name = x) && (glB C.sc x && (okName x && (decide (kwN ks = sh.ks.map some) && (mEs C as xs && mEs C kas (kwE ks))))))
        | none => false)
      | none => false)
    | none => false
  | .mth o m as, e => match vMeth e with
    | some (eo, x, xs, ks) => decide (x = m.nm) && (ks.isEmpty && (baseOk eo && (decide (xs.length < 20) && (lineB e && (mE C o eo && mEs C as xs)))))
    | none => false
  | .comp _ own b t it cs, e => match vComp e with
    | some (elt, et, ei, ecs, scope) => blkC C.N C.sc scope (ownN C.N own) && (t.sl.all (fun i => own.contains i) && (plainIt ei && (mI C it et ei && (mG (C.blk scope) t et && (mC (C.blk scope) cs ecs && mE (C.blk scope) b elt)))))
    | none => false
  | .frz a, e => mE C a e
  | .fld a _ f, e => match vAtt e with
    | some (ea, x) => decide (x = f) && (baseOk ea && mE C a ea)
    | none => false
  | .mcl o c m f s as kas, e => match vMeth e with
    | some (eo, x, xs, ks) => (match C.fns.lookup f with
      | some i => (match i.shapes[s]? with
        | some sh => decide (x = m) && (decide (i.own = some (c, m)) && (decide (kwN ks = sh.ks.map some) && (baseOk eo && (decide (xs.length + ks.length < 20) && (lineB e && (mE C o eo && (mEs C as xs && mEs C kas (kwE ks))))))))
        | none => false)
      | none => false)
    | none => false
  | .cmpO _ _ _ _ _ _, _ => false
  | .prm (.new c f s) as kas, e => match vCall e with
    | some (x, xs, ks) => (match C.fns.lookup f with
      | some i => (match i.shapes[s]? with
        | some sh => decide (x = c) && (decide (i.own = some (c, ("__init__" : Str))) && (decide (c ∈ C.clss) && (glB C.sc c && (okName c && (decide (kwN ks = sh.ks.map some) && (mEs C as xs && mEs C kas (kwE ks)))))))
        | none => false)
      | none => false)
    | none => false
  | .prm (.isc c) as kas, e => match vCall e with
    | some (x, [ea, et], []) => decide (x = "isinstance") && (decide (vName et = some c) && (mBlt C "isinstance" && (nmB C c && (glB C.sc c && (okName c && (noStar [ea] && (isNilE kas && mEs C as [ea])))))))
    | _ => false
  | .prm (.isb c) as kas, e => match vCall e with
    | some (x, [ea, et], []) => decide (x = "isinstance") && (decide (vName et = some c) && (mBlt C "isinstance" && (mBlt C c && ((isBE c).isSome && (noStar [ea] && (isNilE kas && mEs C as [ea]))))))
    | _ => false
  | .prm (.xf f) as kas, e => match vAtt e with
    | some (ea, x) => decide (x = f) && (baseOk ea && (isNilE kas && mEs C as [ea]))
    | none => false
  | .prm .dnew as kas, e => isDict0 e && (isNilE as && isNilE kas)
  | .prm .fv _ _, _ => false
  | .prm .js _ _, _ => false
  | .prm (.own _ _ _ _) _ _, _ => false
def mEs (C : Ctx) : Es → List Expr → Bool
  | .nil, es => es.isEmpty
  | .cons a r, es => match es with
    | [] => false
    | e :: es => noStar (e :: es) && (mE C a e && mEs C r es)
def mC (C : Ctx) : Es → List Expr → Bool
  | .nil, es => es.isEmpty
  | .cons a r, es => match es with
    | [e] => mE C a e
    | _ => false
def mG (C : Ctx) : Tg → Expr → Bool
  | .nm i, e => match vName e with
    | some x => mSet C i x
    | none => false
  | .tp ts, e => match vTup e with
    | some es => noStar es && (decide (es.length = ts.len) && mGs C ts es)
    | none => false
  | .sb a i, e => match vSub e with
    | some (ea, ei) => !(isSlice ei) && (mE C a ea && mE C i ei)
    | none => false
def mGs (C : Ctx) : Tgs → List Expr → Bool
  | .nil, es => es.isEmpty
  | .cons t r, es => match es with
    | [] => false
    | e :: es => noStar (e :: es) && (mG C t e && mGs C r es)
def mI (C : Ctx) : It → Expr → Expr → Bool
  | .seq a, _, e => mE C a e
  | .rg1 a, _, e => match vCall e with
    | some (x, [ea], []) => decide (x = "range") && (mBlt C "range" && (noStar [ea] && mE C a ea))
    | _ => false
  | .rg2 a b, _, e => match vCall e with
    | some (x, [ea, eb], []) => decide (x = "range") && (mBlt C "range" && (noStar [ea, eb] && (mE C a ea && mE C b eb)))
    | _ => false
  | .rg3 a b c, _, e => match vCall e with
    | some (x, [ea, eb, ec], []) => decide (x = "range") && (mBlt C "range" && (noStar [ea, eb, ec] && (mE C a ea && (mE C b eb && mE C c ec))))
    | _ => false
  | .enm a, tg, e => match vTup tg, vCall e with
    | some _, some (x, [ea], []) => decide (x = "enumerate") && (mBlt C "enumerate" && (noStar [ea] && mE C a ea))
    | _, _ => false
  | .zip a b, tg, e => match vTup tg, vCall e with
    | some _, some (x, [ea, eb], []) => decide (x = "zip") && (mBlt C "zip" && (noStar [ea, eb] && (mE C a ea && mE C b eb)))
    | _, _ => false
end
section
variable {C : Ctx} {G : Prg} {k : Nat} {Ex : XKs} {X : Cx}
theorem do_op (o : Op2) : OpR X (binaryOp (opO o)) (lift2 X.K (opR o)) := by
  cases o
  · exact do_add
  · exact do_sub
  · exact do_mul
  · exact do_fdiv
  · exact do_mod
  · exact do_pow
  · exact do_addM
theorem do_cmp (ok : COk C G k Ex X) (c : CmpOp) : OpR X (compareOp c) (lift2 X.K (cmpR c)) := by
  cases c
  · exact do_eq ok.room.units
  · exact do_ne ok.room.units
  · exact do_lt
  · exact do_le
  · exact do_gt
  · exact do_ge
  · exact do_is
  · exact do_isn
  · exact do_in
  · exact do_nin
theorem not1 {b : Bool} (h : (!b) = true) : b = false := by cases b <;> first | rfl | cases h
theorem emp1 {α : Type} {l : List α} (h : l.isEmpty = true) : l = [] := List.isEmpty_iff.mp h
theorem pe_rest {o : BoolOp} {y : Expr} {r : List Expr} {p : Pos} {t : TE} (h : PE X (restB o y r p) t) : PE X (.BoolOp o (y :: r) p) t := by
  cases r with
  | nil => exact pe_one h
  | cons => exact h
def isBoolE : Expr → Bool
  | .BoolOp _ _ _ => true
  | _ => false
structure PTW (X : Cx) (e : Expr) (t : TT) : Prop where
  pt : PT X e t
  pw : isBoolE e = true → PW X e t
theorem pw_restA {y : Expr} {r : List Expr} {p : Pos} {t : TT} (h : PTW X (restB .And y r p) t) : PW X (.BoolOp .And (y :: r) p) t := by
  cases r with
  | nil => exact pw_and1 h.pt
  | cons => exact h.pw rfl
theorem pw_restO {y : Expr} {r : List Expr} {p : Pos} {t : TT} (h : PTW X (restB .Or y r p) t) : PW X (.BoolOp .Or (y :: r) p) t := by
  cases r with
  | nil => exact pw_or1 h.pt
  | cons => exact h.pw rfl
theorem PTW.of {e : Expr} {t : TT} (h : PT X e t) (n : isBoolE e = false) : PTW X e t := ⟨h, fun z => by rw [n] at z; cases z⟩
theorem pa_all {t : TA} {es : List Expr} (h : PA X es t) : PA X es t := h
/-! ### the soundness of the walk -/
theorem nonE_eq {l : E} (h : isNonE l = true) : l = .non := by cases l <;> first | rfl | cases h
theorem do_bound {l : E} {el : Option Expr} (hm : (match el with
      | none => isNonE l
      | some x => !(isNonE l) && mE C l x) = true) (h : ∀ x, el = some x → mE C l x = true → PE X x (tD X.K Ex (wpE G l))) : PO X el (tDo X.K Ex fun ρ h Q Xd => wpE G l ρ h (fun y h2 => match sizeOpt (isNonE l) y with
      | some lo => Q lo h2
      | none => False) Xd) := by
  cases el with
  | none =>
    have e := nonE_eq hm
    subst e
    exact do_noPart
  | some x =>
    obtain ⟨h1, h2⟩ := and2 hm
    have h1 := not1 h1
    refine (do_part (h x rfl h2)).weak fun σ H Q ⟨ρ, h, Qd, Ed, re, hr, t, c, cx⟩ => ⟨ρ, h, Qd, Ed, re, hr, ?_, c, cx⟩
    rw [h1] at t
    have e : (fun (y : D) (h2 : Hd) => (match sizeOpt false y with
      | some lo => Qd lo h2
      | none => False)) = fun (d : D) (h1 : Hd) => (match d with | .int i => Qd (some i) h1 | _ => False) := by
      funext y h2
      cases y <;> rfl
    exact e ▸ t
theorem mEs_star {C : Ctx} {as : Es} {es : List Expr} (h : mEs C as es = true) : noStar es = true := by
  cases as with
  | nil => rw [mEs] at h; rw [emp1 h]; rfl
  | cons a r =>
    cases es with
    | nil => rfl
    | cons e es => rw [mEs] at h; exact (and2 h).1
theorem mEs_nil {C : Ctx} {as : Es} (h : mEs C as [] = true) : as = .nil := by
  cases as with
  | nil => rfl
  | cons a r => rw [mEs] at h; cases h
theorem pt_false {e : Expr} : PTW X e (tDt X.K Ex fun _ _ _ _ => False) :=
  ⟨⟨fun _ _ _ _ _ _ ⟨_, _, _, _, _, _, t, _⟩ => t.elim⟩, fun _ => ⟨fun _ _ _ _ _ _ _ ⟨_, _, _, _, _, _, t, _⟩ => t.elim⟩⟩
theorem plain_pt {e : Expr} {T : TD} {U : TDt} (h : PE X e (tD X.K Ex T)) (p : plainT e = true) (w : ∀ ρ h Q Xd, U ρ h Q Xd → T ρ h (fun x h1 => truQ x h1 fun k => Q k h1) Xd) : PTW X e (tDt X.K Ex U) :=
  ⟨(d_truth h p).weak fun σ H Q ⟨ρ, h, Qd, Ed, re, hr, t, c, cx⟩ => ⟨ρ, h, Qd, Ed, re, hr, w _ _ _ _ t, c, cx⟩, fun z => by cases e <;> first | (cases z; done) | (cases p; done)⟩
theorem both {e : Expr} {T : TD} {U : TDt} (h : PE X e (tD X.K Ex T)) (p : plainT e = true) (w : ∀ ρ h Q Xd, U ρ h Q Xd → T ρ h (fun x h1 => truQ x h1 fun k => Q k h1) Xd) : PE X e (tD X.K Ex T) ∧ PTW X e (tDt X.K Ex U) := ⟨h, plain_pt h p w⟩
theorem d_mth0 {o : Expr} {To : TD} {m : Mth} {apos pos : Pos} (ho : PE X o (tD X.K Ex To)) (hbase : baseOk o = true) (hline : lineOk apos pos = true) :
    PE X (.Call (.Attribute o m.nm apos) [] [] pos) (tD X.K Ex fun ρ h Q Xd => To ρ h (fun x h1 => isTyM m x h1 ∧ mthR m x [] h1 Q) Xd) :=
  (pe_bm0 (mth_pa m) (mth_slot m) (mth_type m) (mth_ok m) ho (baseOk_eq hbase) hline).weak fun σ H Q ⟨ρ, h, Qd, Ed, re, hr, t, c, cx⟩ => by
    refine ⟨ρ, h, _, Ed, re, hr, t, fun d1 h1 v1 H1 f1 hr1 r1 q1 => ?_, cx⟩
    exact ⟨isTyM_ok hr1 r1 q1.1, h1, d1, [], Qd, hr1, r1, .nil, q1.2, c.frm f1⟩
theorem isi_tru {t : Ty} {Q : Bool → Hd → Prop} : (fun d h => isiR t d h (blQ Q)) = fun d h => isiR t d h (fun x h1 => truQ x h1 fun k => Q k h1) := by
  funext d h
  unfold isiR
  split <;> rfl
theorem mEs_one {C : Ctx} {as : Es} {e : Expr} (h : mEs C as [e] = true) : ∃ a, as = .cons a .nil ∧ mE C a e = true := by
  cases as with
  | nil => rw [mEs] at h; cases h
  | cons a r =>
    rw [mEs] at h
    obtain ⟨g1, r2⟩ := and2 h
    obtain ⟨g2, r3⟩ := and2 r2
    rw [mEs_nil r3]
    exact ⟨a, rfl, g2⟩
theorem mcl_tru {G : Prg} {o : E} {c m : Str} {f s : Nat} {as kas : Es} {ρ : DEnv} {h : Hd} {Q : Bool → Hd → Prop} {Xd : QX} (w : wpT G (.mcl o c m f s as kas) ρ h Q Xd) : wpE G (.mcl o c m f s as kas) ρ h (fun x h1 => truQ x h1 fun k => Q k h1) Xd := w
mutual
theorem mE_ok : ∀ (a : E) (e : Expr) {C : Ctx} {Ex : XKs} {X : Cx}, COk C G k Ex X → mE C a e = true → PE X e (tD X.K Ex (wpE G a)) ∧ PTW X e (tDt X.K Ex (wpT G a))
  | .non, e, C, Ex, X, ok, h => by
    rw [mE] at h
    obtain ⟨j, p, rfl⟩ := vConst_eq (of_decide_eq_true h)
    exact both (d_const pe_non fun _ _ => .non) rfl fun _ _ _ _ q => q
  | .bl b, e, C, Ex, X, ok, h => by
    rw [mE] at h
    obtain ⟨j, p, rfl⟩ := vConst_eq (of_decide_eq_true h)
    exact both (d_const pe_bl fun _ _ => .bl b) rfl fun _ _ _ _ q => q
  | .int i, e, C, Ex, X, ok, h => by
    rw [mE] at h
    obtain ⟨j, p, rfl⟩ := vConst_eq (of_decide_eq_true h)
    exact both (d_const pe_int fun _ _ => .int i) rfl fun _ _ _ _ q => q
  | .str x, e, C, Ex, X, ok, h => by
    rw [mE] at h
    obtain ⟨j, p, rfl⟩ := vConst_eq (of_decide_eq_true h)
    exact both (d_const pe_str fun _ _ => .str x) rfl fun _ _ _ _ q => q
  | .loc i, e, C, Ex, X, ok, h => by
    rw [mE] at h
    split at h
    · rename_i x ev
      obtain ⟨p, rfl⟩ := vName_eq ev
      exact both (d_loc ok h) rfl fun _ _ _ _ q => q
    · cases h
  | .glo i, e, C, Ex, X, ok, h => by
    rw [mE] at h
    split at h
    · rename_i x ev
      obtain ⟨p, rfl⟩ := vName_eq ev
      exact both (d_glo ok h) rfl fun _ _ _ _ q => q
    · cases h
  | .op o a b, e, C, Ex, X, ok, h => by
    rw [mE] at h
    split at h
    · rename_i ea oo eb ev
      obtain ⟨p, rfl⟩ := vBin_eq ev
      obtain ⟨g1, r2⟩ := and2 h
      obtain ⟨g2, r3⟩ := and2 r2
      have d1 := of_decide_eq_true g1
      subst d1
      exact both (d_op (do_op o) (mE_ok a ea ok g2).1 (mE_ok b eb ok r3).1) rfl fun _ _ _ _ q => q
    · cases h
  | .neg a, e, C, Ex, X, ok, h => by
    rw [mE] at h
    split at h
    · rename_i u ea ev
      obtain ⟨p, rfl⟩ := vUn_eq ev
      obtain ⟨g1, r2⟩ := and2 h
      have d1 := of_decide_eq_true g1
      subst d1
      exact ⟨d_neg (mE_ok a ea ok r2).1, pt_false⟩
    · cases h
  | .cmp c a b, e, C, Ex, X, ok, h => by
    rw [mE] at h
    split at h
    · rename_i ea o eb ev
      obtain ⟨p, rfl⟩ := vCmp_eq ev
      obtain ⟨g1, r2⟩ := and2 h
      obtain ⟨g2, r3⟩ := and2 r2
      obtain ⟨g3, r4⟩ := and2 r3
      have d1 := of_decide_eq_true g1
      subst d1
      exact ⟨d_cmp (do_cmp ok o) (mE_ok a ea ok g3).1 (mE_ok b eb ok r4).1 (not1 g2), .of (d_cmpT (do_cmp ok o) (mE_ok a ea ok g3).1 (mE_ok b eb ok r4).1 (not1 g2)) rfl⟩
    · cases h
  | .chn c c' a b d, e, C, Ex, X, ok, h => by
    rw [mE] at h
    split at h
    · rename_i ea o eb o' ed ev
      obtain ⟨p, rfl⟩ := vChn_eq ev
      obtain ⟨g1, r2⟩ := and2 h
      obtain ⟨g2, r3⟩ := and2 r2
      obtain ⟨g3, r4⟩ := and2 r3
      obtain ⟨g4, r5⟩ := and2 r4
      obtain ⟨g5, r6⟩ := and2 r5
      have d1 := of_decide_eq_true g1
      have d2 := of_decide_eq_true g2
      subst d1 d2
      exact ⟨d_chn (do_cmp ok o) (do_cmp ok o') (mE_ok a ea ok g4).1 (mE_ok b eb ok g5).1 (mE_ok d ed ok r6).1 (not1 g3), .of (d_chnT (do_cmp ok o) (do_cmp ok o') (mE_ok a ea ok g4).1 (mE_ok b eb ok g5).1 (mE_ok d ed ok r6).1 (not1 g3)) rfl⟩
    · cases h
  | .andE a b, e, C, Ex, X, ok, h => by
    rw [mE] at h
    split at h
    · rename_i o x y r p ev
      have ev := vBool_eq ev
      subst ev
      obtain ⟨g1, r2⟩ := and2 h
      obtain ⟨g2, r3⟩ := and2 r2
      have d1 := of_decide_eq_true g1
      subst d1
      have pw := d_andW (mE_ok a x ok g2).2.pt (pw_restA (mE_ok b _ ok r3).2)
      exact ⟨d_and (mE_ok a x ok g2).1 (pe_rest (mE_ok b _ ok r3).1), pw.pt, fun _ => pw⟩
    · cases h
  | .orE a b, e, C, Ex, X, ok, h => by
    rw [mE] at h
    split at h
    · rename_i o x y r p ev
      have ev := vBool_eq ev
      subst ev
      obtain ⟨g1, r2⟩ := and2 h
      obtain ⟨g2, r3⟩ := and2 r2
      have d1 := of_decide_eq_true g1
      subst d1
      have pw := d_orW (mE_ok a x ok g2).2.pt (pw_restO (mE_ok b _ ok r3).2)
      exact ⟨d_or (mE_ok a x ok g2).1 (pe_rest (mE_ok b _ ok r3).1), pw.pt, fun _ => pw⟩
    · cases h
  | .notE a, e, C, Ex, X, ok, h => by
    rw [mE] at h
    split at h
    · rename_i u ea ev
      obtain ⟨p, rfl⟩ := vUn_eq ev
      obtain ⟨g1, r2⟩ := and2 h
      have d1 := of_decide_eq_true g1
      subst d1
      exact ⟨d_not (mE_ok a ea ok r2).1, .of (d_notT (mE_ok a ea ok r2).2.pt) rfl⟩
    · cases h
  | .ife c a b, e, C, Ex, X, ok, h => by
    rw [mE] at h
    split at h
    · rename_i ec ea eb ev
      obtain ⟨p, rfl⟩ := vIf_eq ev
      obtain ⟨g1, r2⟩ := and2 h
      obtain ⟨g2, r3⟩ := and2 r2
      exact ⟨d_ife (mE_ok c ec ok g1).2.pt (mE_ok a ea ok g2).1 (mE_ok b eb ok r3).1, pt_false⟩
    · cases h
  | .tup es, e, C, Ex, X, ok, h => by
    rw [mE] at h
    split at h
    · rename_i xs ev
      obtain ⟨kk, p, rfl⟩ := vTup_eq ev
      exact ⟨d_tup (mEs_ok es xs ok h), pt_false⟩
    · cases h
  | .lst m es, e, C, Ex, X, ok, h => by
    rw [mE] at h
    split at h
    · rename_i xs ev
      obtain ⟨p, rfl⟩ := vLst_eq ev
      exact ⟨d_lst (mEs_ok es xs ok h), pt_false⟩
    · cases h
  | .ix a i, e, C, Ex, X, ok, h => by
    rw [mE] at h
    split at h
    · rename_i ea ei ev
      obtain ⟨p, rfl⟩ := vSub_eq ev
      obtain ⟨g1, r2⟩ := and2 h
      obtain ⟨g2, r3⟩ := and2 r2
      exact both (d_ix (mE_ok a ea ok g2).1 (mE_ok i ei ok r3).1 (not1 g1)) rfl fun _ _ _ _ q => q
    · cases h
  | .slc a l u, e, C, Ex, X, ok, h => by
    rw [mE] at h
    split at h
    · rename_i ea el eu ev
      obtain ⟨p, p2, rfl⟩ := vSlice_eq ev
      obtain ⟨g1, r2⟩ := and2 h
      obtain ⟨g2, r3⟩ := and2 r2
      exact ⟨d_slc (mE_ok a ea ok g1).1 (do_bound g2 fun x _ hx => (mE_ok l x ok hx).1) (do_bound r3 fun x _ hx => (mE_ok u x ok hx).1), pt_false⟩
    · cases h
  | .rev a, e, C, Ex, X, ok, h => by
    rw [mE] at h
    split at h
    · rename_i ea ev
      obtain ⟨p, p1, p2, p3, kk, rfl⟩ := vRev_eq ev
      exact ⟨d_rev (mE_ok a ea ok h).1, pt_false⟩
    · cases h
  | .bif b as, e, C, Ex, X, ok, h => by
    rw [mE] at h
    split at h
    · rename_i x xs ks ev
      obtain ⟨p, q, rfl⟩ := vCall_eq ev
      obtain ⟨g1, r2⟩ := and2 h
      obtain ⟨g2, r3⟩ := and2 r2
      obtain ⟨g3, r4⟩ := and2 r3
      obtain ⟨g4, r5⟩ := and2 r4
      have d1 := of_decide_eq_true g1
      have d3 := emp1 g3
      subst d1 d3
      cases xs with
      | nil => cases g4
      | cons e0 es0 =>
        exact both (d_bif (p := p) (pos := q) ok g2 (mEs_ok as _ ok r5) (mEs_star r5)) rfl fun _ _ _ _ q => q
    · cases h
  | .isi a t, e, C, Ex, X, ok, h => by
    rw [mE] at h
    split at h
    · rename_i x ea et ev
      obtain ⟨p, q, rfl⟩ := vCall_eq ev
      obtain ⟨g1, r2⟩ := and2 h
      obtain ⟨g2, r3⟩ := and2 r2
      obtain ⟨g3, r4⟩ := and2 r3
      obtain ⟨g4, r5⟩ := and2 r4
      obtain ⟨g5, r6⟩ := and2 r5
      have d1 := of_decide_eq_true g1
      subst d1
      obtain ⟨p2, rfl⟩ := vName_eq (of_decide_eq_true g2)
      exact both (d_isi ok g3 g4 (mE_ok a ea ok r6).1 g5) rfl fun ρ h Q Xd z => by
        have z : wpE G a ρ h (fun d h => isiR t d h (blQ Q)) Xd := z
        rw [isi_tru] at z
        exact z
    · cases h
  | .call f s as kas, e, C, Ex, X, ok, h => by
    rw [mE] at h
    split at h
    · rename_i x xs ks ev
      obtain ⟨p, q, rfl⟩ := vCall_eq ev
      split at h
      · rename_i i hf
        split at h
        · rename_i sh hsh
          obtain ⟨g0, r1⟩ := and2 h
          have ho : i.own = none := Option.isNone_iff_eq_none.mp g0
          obtain ⟨g1, r2⟩ := and2 r1
          obtain ⟨g2, r3⟩ := and2 r2
          obtain ⟨g3, r4⟩ := and2 r3
          obtain ⟨g4, r5⟩ := and2 r4
          obtain ⟨g5, r6⟩ := and2 r5
          cases xs with
          | nil =>
            have e1 := mEs_nil g5
            subst e1
            have := d_call0 (p := p) (pos := q) (Tk := wpA G kas) ok hf hsh ho (of_decide_eq_true g1) g2 g3 (of_decide_eq_true g4) (mK_ok kas ks ok r6)
            skip
            exact ⟨this, plain_pt this rfl fun _ _ _ _ q => q⟩
          | cons e0 es0 =>
            exact both (d_call (p := p) (pos := q) ok hf hsh ho (of_decide_eq_true g1) g2 g3 (of_decide_eq_true g4) (mEs_ok as _ ok g5) (mK_ok kas ks ok r6) (mEs_star g5)) rfl fun _ _ _ _ q => q
        · cases h
      · cases h
    · cases h
  | .mth o m as, e, C, Ex, X, ok, h => by
    rw [mE] at h
    split at h
    · rename_i eo x xs ks ev
      obtain ⟨p, q, rfl⟩ := vMeth_eq ev
      obtain ⟨g1, r2⟩ := and2 h
      obtain ⟨g2, r3⟩ := and2 r2
      obtain ⟨g4, r5⟩ := and2 r3
      obtain ⟨g5, r6⟩ := and2 r5
      obtain ⟨g6, r7⟩ := and2 r6
      obtain ⟨g7, r8⟩ := and2 r7
      have d1 := of_decide_eq_true g1
      have d2 := emp1 g2
      subst d1 d2
      cases xs with
      | nil =>
        have e1 := mEs_nil r8
        subst e1
        exact ⟨d_mth0 (mE_ok o eo ok g7).1 g4 g6, pt_false⟩
      | cons e0 es0 => exact ⟨d_mth (mE_ok o eo ok g7).1 (mEs_ok as _ ok r8) (mEs_star r8) g4 (of_decide_eq_true g5) g6, pt_false⟩
    · cases h
  | .comp m own b t it cs, e, C, Ex, X, ok, h => by
    rw [mE] at h
    split at h
    · rename_i elt et ei ecs scope ev
      obtain ⟨p, rfl⟩ := vComp_eq ev
      obtain ⟨g1, r2⟩ := and2 h
      obtain ⟨g2, r3⟩ := and2 r2
      obtain ⟨g3, r4⟩ := and2 r3
      obtain ⟨g4, r5⟩ := and2 r4
      obtain ⟨g5, r6⟩ := and2 r5
      obtain ⟨g6, r7⟩ := and2 r6
      have hk := (blkOk_by g1).kind
      have hsl : ∀ i ∈ t.sl, i ∈ (ownN C.N own).map (·.2) := by
        rw [ownN_snd]
        intro i hi
        have := List.all_eq_true.mp g2 i hi
        simpa using this
      have := d_comp (m := m) (pos := p) ok (mI_ok it et ei ok g4) g1 (fun s H A cl fp => mG_ok t et (ok.blk hk s H A cl fp) g5) (fun s H A cl fp => mC_ok cs ecs (ok.blk hk s H A cl fp) g6) (fun s H A cl fp => (mE_ok b elt (ok.blk hk s H A cl fp) r7).1) hsl g3
      rw [ownN_snd] at this
      exact ⟨this, pt_false⟩
    · cases h
  | .frz a, e, C, Ex, X, ok, h => by
    rw [mE] at h
    exact ⟨de_frz (mE_ok a e ok h).1, pt_false⟩
  | .fld a j f, e, C, Ex, X, ok, h => by
    rw [mE] at h
    split at h
    · rename_i ea x ev
      obtain ⟨p, rfl⟩ := vAtt_eq ev
      obtain ⟨g1, r1⟩ := and2 h
      obtain ⟨g2, r2⟩ := and2 r1
      have d1 := of_decide_eq_true g1
      subst d1
      exact both (d_fld ok (mE_ok a ea ok r2).1 g2) rfl fun _ _ _ _ q => q
    · cases h
  | .mcl o c m f s as kas, e, C, Ex, X, ok, h => by
    rw [mE] at h
    split at h
    · rename_i eo x xs ks ev
      obtain ⟨p, q, rfl⟩ := vMeth_eq ev
      split at h
      · rename_i i hf
        split at h
        · rename_i sh hsh
          obtain ⟨g0, r1⟩ := and2 h
          obtain ⟨g1, r2⟩ := and2 r1
          obtain ⟨g2, r3⟩ := and2 r2
          obtain ⟨g3, r4⟩ := and2 r3
          obtain ⟨g4, r5⟩ := and2 r4
          obtain ⟨g5, r6⟩ := and2 r5
          obtain ⟨g6, r7⟩ := and2 r6
          obtain ⟨g7, r8⟩ := and2 r7
          have d0 := of_decide_eq_true g0
          subst d0
          have := d_mcl (Ts := wpA G as) (Tk := wpA G kas) ok hf hsh (of_decide_eq_true g1) (mE_ok o eo ok g6).1 (of_decide_eq_true g2) (mEs_ok as xs ok g7) (mK_ok kas ks ok r8) (mEs_star g7) g3 g5 (of_decide_eq_true g4) (fun z ρ h Q Xd w => by
            subst z
            have e1 := mEs_nil g7
            subst e1
            exact w)
          exact both this rfl fun ρ h Q Xd w => mcl_tru w
        · cases h
      · cases h
    · cases h
  | .cmpO c C' f s a b, e, C, Ex, X, ok, h => by
    rw [mE] at h; cases h
  | .prm (.new c f s) as kas, e, C, Ex, X, ok, h => by
    rw [mE] at h
    split at h
    · rename_i x xs ks ev
      obtain ⟨p, q, rfl⟩ := vCall_eq ev
      split at h
      · rename_i i hf
        split at h
        · rename_i sh hsh
          obtain ⟨g0, r1⟩ := and2 h
          obtain ⟨g1, r2⟩ := and2 r1
          obtain ⟨g2, r3⟩ := and2 r2
          obtain ⟨g3, r4⟩ := and2 r3
          obtain ⟨g4, r5⟩ := and2 r4
          obtain ⟨g5, r6⟩ := and2 r5
          obtain ⟨g6, r7⟩ := and2 r6
          have d0 := of_decide_eq_true g0
          subst d0
          exact both (d_new (Ts := wpA G as) (Tk := wpA G kas) ok hf hsh (of_decide_eq_true g1) (of_decide_eq_true g2) g3 g4 (of_decide_eq_true g5) (mEs_ok as xs ok g6) (mK_ok kas ks ok r7) (mEs_star g6) (fun z ρ h Q Xd w => by
            subst z
            have e1 := mEs_nil g6
            subst e1
            exact w)) rfl fun ρ h Q Xd w => w
        · cases h
      · cases h
    · cases h
  | .prm (.isc c) as kas, e, C, Ex, X, ok, h => by
    rw [mE] at h
    split at h
    · rename_i x ea et ev
      obtain ⟨p, q, rfl⟩ := vCall_eq ev
      obtain ⟨g1, r2⟩ := and2 h
      obtain ⟨g2, r3⟩ := and2 r2
      obtain ⟨g3, r4⟩ := and2 r3
      obtain ⟨g4, r5⟩ := and2 r4
      obtain ⟨g5, r6⟩ := and2 r5
      obtain ⟨g6, r7⟩ := and2 r6
      obtain ⟨g7, r8⟩ := and2 r7
      obtain ⟨g8, r9⟩ := and2 r8
      have d1 := of_decide_eq_true g1
      subst d1
      obtain ⟨p2, rfl⟩ := vName_eq (of_decide_eq_true g2)
      have e1 := isNilE_eq g8
      subst e1
      obtain ⟨a, rfl, r10⟩ := mEs_one r9
      exact both (d_isc ok g3 (nmB_ok g4) g5 g6 (mE_ok a ea ok r10).1 g7) rfl fun ρ h Q Xd z => z
    · cases h
  | .prm (.isb c) as kas, e, C, Ex, X, ok, h => by
    rw [mE] at h
    split at h
    · rename_i x ea et ev
      obtain ⟨p, q, rfl⟩ := vCall_eq ev
      obtain ⟨g1, r2⟩ := and2 h
      obtain ⟨g2, r3⟩ := and2 r2
      obtain ⟨g3, r4⟩ := and2 r3
      obtain ⟨g4, r5⟩ := and2 r4
      obtain ⟨g5, r6⟩ := and2 r5
      obtain ⟨g6, r7⟩ := and2 r6
      obtain ⟨g7, r8⟩ := and2 r7
      have d1 := of_decide_eq_true g1
      subst d1
      obtain ⟨p2, rfl⟩ := vName_eq (of_decide_eq_true g2)
      have e1 := isNilE_eq g7
      subst e1
      obtain ⟨a, rfl, r10⟩ := mEs_one r8
      obtain ⟨sn, e2⟩ := Option.isSome_iff_exists.mp g5
      exact both (d_isb ok g3 g4 e2 (mE_ok a ea ok r10).1 g6) rfl fun ρ h Q Xd z => z
    · cases h
  | .prm (.xf f) as kas, e, C, Ex, X, ok, h => by
    rw [mE] at h
    split at h
    · rename_i ea x ev
      obtain ⟨p, rfl⟩ := vAtt_eq ev
      obtain ⟨g1, r1⟩ := and2 h
      obtain ⟨g2, r2⟩ := and2 r1
      obtain ⟨g3, r3⟩ := and2 r2
      have d1 := of_decide_eq_true g1
      subst d1
      have e1 := isNilE_eq g3
      subst e1
      obtain ⟨a, rfl, r4⟩ := mEs_one r3
      exact both (d_xf ok (mE_ok a ea ok r4).1 g2) rfl fun _ _ _ _ q => q
    · cases h
  | .prm .dnew as kas, e, C, Ex, X, ok, h => by
    rw [mE] at h
    obtain ⟨g1, r1⟩ := and2 h
    obtain ⟨g2, g3⟩ := and2 r1
    obtain ⟨p, rfl⟩ := isDict0_eq g1
    have e1 := isNilE_eq g2
    subst e1
    have e2 := isNilE_eq g3
    subst e2
    exact both d_dnew rfl fun _ _ _ _ q => q
  | .prm .fv as kas, e, C, Ex, X, ok, h => by
    rw [mE] at h; cases h
  | .prm .js as kas, e, C, Ex, X, ok, h => by
    rw [mE] at h; cases h
  | .prm (.own k c f s) as kas, e, C, Ex, X, ok, h => by
    rw [mE] at h; cases h
theorem mEs_ok : ∀ (as : Es) (es : List Expr) {C : Ctx} {Ex : XKs} {X : Cx}, COk C G k Ex X → mEs C as es = true → PA X es (tDs X.K Ex (wpA G as))
  | .nil, es, C, Ex, X, ok, h => by
    rw [mEs] at h
    rw [emp1 h]
    exact da_nil
  | .cons a r, es, C, Ex, X, ok, h => by
    skip
    cases es with
    | nil => cases h
    | cons e es =>
      rw [mEs] at h
      obtain ⟨g1, r2⟩ := and2 h
      obtain ⟨g2, r3⟩ := and2 r2
      exact da_cons (mE_ok a e ok g2).1 (mEs_ok r es ok r3) g1
theorem mK_ok : ∀ (as : Es) (es : List Keyword) {C : Ctx} {Ex : XKs} {X : Cx}, COk C G k Ex X → mEs C as (kwE es) = true → PK X es (tDs X.K Ex (wpA G as))
  | .nil, es, C, Ex, X, ok, h => by
    skip
    cases es with
    | nil => exact dk_nil
    | cons e es =>
      obtain ⟨nm, e, kp⟩ := e
      cases h
  | .cons a r, es, C, Ex, X, ok, h => by
    skip
    cases es with
    | nil => cases h
    | cons e es =>
      obtain ⟨nm, e, kp⟩ := e
      have h : mEs C (.cons a r) (e :: kwE es) = true := h
      rw [mEs] at h
      obtain ⟨g1, r2⟩ := and2 h
      obtain ⟨g2, r3⟩ := and2 r2
      exact dk_cons (mE_ok a e ok g2).1 (mK_ok r es ok r3)
theorem mC_ok : ∀ (as : Es) (es : List Expr) {C : Ctx} {Ex : XKs} {X : Cx}, COk C G k Ex X → mC C as es = true → PTs X es (tDt X.K Ex (wpC G as))
  | .nil, es, C, Ex, X, ok, h => by
    rw [mC] at h
    rw [emp1 h]
    exact ⟨fun pins s σ H Q I ⟨ρ, h, Qd, Ed, re, hr, t, c, cx⟩ => pts_nil.run pins s σ H Q I (c _ _ _ Frm.refl hr t)⟩
  | .cons a r, es, C, Ex, X, ok, h => by
    skip
    cases es with
    | nil => cases h
    | cons e es =>
      cases es with
      | nil => rw [mC] at h; exact pts_one (mE_ok a _ ok h).2.pt
      | cons => cases h
theorem mG_ok : ∀ (t : Tg) (e : Expr) {C : Ctx} {Ex : XKs} {X : Cx}, COk C G k Ex X → mG C t e = true → PG X e (tDG X.K Ex t.sl (wpG G t))
  | .nm i, e, C, Ex, X, ok, h => by
    rw [mG] at h; rw [Tg.sl]
    split at h
    · rename_i x ev
      obtain ⟨p, rfl⟩ := vName_eq ev
      exact dg_nm ok h
    · cases h
  | .tp ts, e, C, Ex, X, ok, h => by
    rw [mG] at h; rw [Tg.sl]
    split at h
    · rename_i es ev
      obtain ⟨kk, p, rfl⟩ := vTup_eq ev
      obtain ⟨g1, r2⟩ := and2 h
      obtain ⟨g2, r3⟩ := and2 r2
      exact dg_tp ok (mGs_ok ts es ok r3) g1 (of_decide_eq_true g2)
    · cases h
  | .sb a i, e, C, Ex, X, ok, h => by
    rw [mG] at h; rw [Tg.sl]
    split at h
    · rename_i ea ei ev
      obtain ⟨p, rfl⟩ := vSub_eq ev
      obtain ⟨g1, r2⟩ := and2 h
      obtain ⟨g2, r3⟩ := and2 r2
      exact dg_sb (mE_ok a ea ok g2).1 (mE_ok i ei ok r3).1 (not1 g1)
    · cases h
theorem mGs_ok : ∀ (ts : Tgs) (es : List Expr) {C : Ctx} {Ex : XKs} {X : Cx}, COk C G k Ex X → mGs C ts es = true → PGs X es (tDGs X.K Ex ts.sl (wpGs G ts))
  | .nil, es, C, Ex, X, ok, h => by
    rw [mGs] at h; rw [Tgs.sl]
    rw [emp1 h]
    exact dgs_nil
  | .cons t r, es, C, Ex, X, ok, h => by
    rw [Tgs.sl]
    cases es with
    | nil => cases h
    | cons e es =>
      rw [mGs] at h
      obtain ⟨g1, r2⟩ := and2 h
      obtain ⟨g2, r3⟩ := and2 r2
      exact dgs_cons (mG_ok t e ok g2) (mGs_ok r es ok r3) g1
theorem mI_ok : ∀ (it : It) (tg e : Expr) {C : Ctx} {Ex : XKs} {X : Cx}, COk C G k Ex X → mI C it tg e = true → PI X tg e (iD X.K Ex (wpI G it))
  | .seq a, tg, e, C, Ex, X, ok, h => by
    rw [mI] at h
    exact di_seq (mE_ok a e ok h).1
  | .rg1 a, tg, e, C, Ex, X, ok, h => by
    rw [mI] at h
    split at h
    · rename_i x ea ev
      obtain ⟨p, q, rfl⟩ := vCall_eq ev
      obtain ⟨g1, r2⟩ := and2 h
      obtain ⟨g2, r3⟩ := and2 r2
      obtain ⟨g3, r4⟩ := and2 r3
      have d1 := of_decide_eq_true g1
      subst d1
      exact di_rg1 ok g2 (mE_ok a ea ok r4).1 g3
    · cases h
  | .rg2 a b, tg, e, C, Ex, X, ok, h => by
    rw [mI] at h
    split at h
    · rename_i x ea eb ev
      obtain ⟨p, q, rfl⟩ := vCall_eq ev
      obtain ⟨g1, r2⟩ := and2 h
      obtain ⟨g2, r3⟩ := and2 r2
      obtain ⟨g3, r4⟩ := and2 r3
      obtain ⟨g4, r5⟩ := and2 r4
      have d1 := of_decide_eq_true g1
      subst d1
      exact di_rg2 ok g2 (mE_ok a ea ok g4).1 (mE_ok b eb ok r5).1 g3
    · cases h
  | .rg3 a b c, tg, e, C, Ex, X, ok, h => by
    rw [mI] at h
    split at h
    · rename_i x ea eb ec ev
      obtain ⟨p, q, rfl⟩ := vCall_eq ev
      obtain ⟨g1, r2⟩ := and2 h
      obtain ⟨g2, r3⟩ := and2 r2
      obtain ⟨g3, r4⟩ := and2 r3
      obtain ⟨g4, r5⟩ := and2 r4
      obtain ⟨g5, r6⟩ := and2 r5
      have d1 := of_decide_eq_true g1
      subst d1
      exact di_rg3 ok g2 (mE_ok a ea ok g4).1 (mE_ok b eb ok g5).1 (mE_ok c ec ok r6).1 g3
    · cases h
  | .enm a, tg, e, C, Ex, X, ok, h => by
    rw [mI] at h
    split at h
    · rename_i ts x ea et ev
      obtain ⟨p, q, rfl⟩ := vCall_eq ev
      obtain ⟨kk, p2, rfl⟩ := vTup_eq et
      obtain ⟨g1, r2⟩ := and2 h
      obtain ⟨g2, r3⟩ := and2 r2
      obtain ⟨g3, r4⟩ := and2 r3
      have d1 := of_decide_eq_true g1
      subst d1
      exact di_enm ok g2 (mE_ok a ea ok r4).1 g3
    · cases h
  | .zip a b, tg, e, C, Ex, X, ok, h => by
    rw [mI] at h
    split at h
    · rename_i ts x ea eb et ev
      obtain ⟨p, q, rfl⟩ := vCall_eq ev
      obtain ⟨kk, p2, rfl⟩ := vTup_eq et
      obtain ⟨g1, r2⟩ := and2 h
      obtain ⟨g2, r3⟩ := and2 r2
      obtain ⟨g3, r4⟩ := and2 r3
      obtain ⟨g4, r5⟩ := and2 r4
      have d1 := of_decide_eq_true g1
      subst d1
      exact di_zip ok g2 (mE_ok a ea ok g4).1 (mE_ok b eb ok r5).1 g3
    · cases h
end
end
end Y
namespace Y
open PySem PySem.Spec PyProof.Rows L2

/-! ### statements against the text -/
def vAsg : Stmt → Option (Expr × Expr)
  | .Assign [t] e _ => some (t, e)
  | _ => none
theorem vAsg_eq {s : Stmt} {t e : Expr} (h : vAsg s = some (t, e)) : ∃ p, s = .Assign [t] e p := by
  unfold vAsg at h
  split at h <;> cases h
  exact ⟨_, rfl⟩
def vPar : Stmt → Option (List Expr × List Expr × Nat × Pos × Nat × Pos)
  | .Assign [.Tuple ts k1 p1] (.Tuple vs k2 p2) _ => some (ts, vs, k1, p1, k2, p2)
  | _ => none
theorem vPar_eq {s : Stmt} {ts vs : List Expr} {k1 k2 : Nat} {p1 p2 : Pos} (h : vPar s = some (ts, vs, k1, p1, k2, p2)) : ∃ p, s = .Assign [.Tuple ts k1 p1] (.Tuple vs k2 p2) p := by
  unfold vPar at h
  split at h <;> cases h
  exact ⟨_, rfl⟩
def vNm : Expr → Option (Str × Pos)
  | .Name x p => some (x, p)
  | _ => none
theorem vNm_eq {e : Expr} {x : Str} {p : Pos} (h : vNm e = some (x, p)) : e = .Name x p := by
  cases e <;> first | (cases h; done) | (cases h; rfl)
def vAug : Stmt → Option (Str × Operator × Expr)
  | .AugAssign (.Name x _) o e _ => some (x, o, e)
  | _ => none
theorem vAug_eq {s : Stmt} {x : Str} {o : Operator} {e : Expr} (h : vAug s = some (x, o, e)) : ∃ p q, s = .AugAssign (.Name x p) o e q := by
  unfold vAug at h
  split at h <;> cases h
  exact ⟨_, _, rfl⟩
def vAugS : Stmt → Option (Expr × Expr × Operator × Expr)
  | .AugAssign (.Subscript a i _) o e _ => some (a, i, o, e)
  | _ => none
theorem vAugS_eq {s : Stmt} {a i : Expr} {o : Operator} {e : Expr} (h : vAugS s = some (a, i, o, e)) : ∃ p q, s = .AugAssign (.Subscript a i p) o e q := by
  unfold vAugS at h
  split at h <;> cases h
  exact ⟨_, _, rfl⟩
def vIfS : Stmt → Option (Expr × List Stmt × List Stmt)
  | .If c a b _ => some (c, a, b)
  | _ => none
theorem vIfS_eq {s : Stmt} {c : Expr} {a b : List Stmt} (h : vIfS s = some (c, a, b)) : ∃ p, s = .If c a b p := by
  unfold vIfS at h
  split at h <;> cases h
  exact ⟨_, rfl⟩
def vWhl : Stmt → Option (Expr × List Stmt)
  | .While c b [] _ => some (c, b)
  | _ => none
theorem vWhl_eq {s : Stmt} {c : Expr} {b : List Stmt} (h : vWhl s = some (c, b)) : ∃ p, s = .While c b [] p := by
  unfold vWhl at h
  split at h <;> cases h
  exact ⟨_, rfl⟩
def vFor : Stmt → Option (Expr × Expr × List Stmt)
  | .For t i b [] _ => some (t, i, b)
  | _ => none
theorem vFor_eq {s : Stmt} {t i : Expr} {b : List Stmt} (h : vFor s = some (t, i, b)) : ∃ p, s = .For t i b [] p := by
  unfold vFor at h
  split at h <;> cases h
  exact ⟨_, rfl⟩
def vRet : Stmt → Option (Option Expr)
  | .Return e _ => some e
  | _ => none
theorem vRet_eq {s : Stmt} {e : Option Expr} (h : vRet s = some e) : ∃ p, s = .Return e p := by
  unfold vRet at h
  split at h <;> cases h
  exact ⟨_, rfl⟩
def vExp : Stmt → Option Expr
  | .Expr e _ => some e
  | _ => none
theorem vExp_eq {s : Stmt} {e : Expr} (h : vExp s = some e) : ∃ p, s = .Expr e p := by
  unfold vExp at h
  split at h <;> cases h
  exact ⟨_, rfl⟩
def vFldS : Stmt → Option (Expr × Str × Expr)
  | .Assign [.Attribute a f _] e _ => some (a, f, e)
  | _ => none
theorem vFldS_eq {s : Stmt} {a e : Expr} {f : Str} (h : vFldS s = some (a, f, e)) : ∃ p q, s = .Assign [.Attribute a f p] e q := by
  unfold vFldS at h
  split at h <;> cases h
  exact ⟨_, _, rfl⟩
def vRaise : Stmt → Option (Str × List Expr)
  | .Raise (some (.Call (.Name c _) (e :: es) [] _)) none _ => some (c, e :: es)
  | _ => none
theorem vRaise_eq {s : Stmt} {c : Str} {es : List Expr} (h : vRaise s = some (c, es)) : ∃ e es' p q r, es = e :: es' ∧ s = .Raise (some (.Call (.Name c p) (e :: es') [] q)) none r := by
  unfold vRaise at h
  split at h <;> cases h
  exact ⟨_, _, _, _, _, rfl, rfl⟩
def vTry : Stmt → Option (List Stmt × Str × Str × Str)
  | .Try body [.ExceptHandler (some (.Name c _)) (some n) [.Assign [.Name m _] (.Name n2 _) _] _] [] [] _ => if n2 = n then some (body, c, n, m) else none
  | _ => none
theorem vTry_eq {s : Stmt} {b : List Stmt} {c n m : Str} (h : vTry s = some (b, c, n, m)) : ∃ np mp qp sp pos' pos, s = .Try b [.ExceptHandler (some (.Name c np)) (some n) [.Assign [.Name m mp] (.Name n qp) sp] pos'] [] [] pos := by
  unfold vTry at h
  split at h
  · split at h
    · rename_i e
      cases h
      subst e
      exact ⟨_, _, _, _, _, _, rfl⟩
    · cases h
  · cases h
def vTryB : Stmt → Option (List Stmt × List ExceptHandler)
  | .Try body hs [] [] _ => some (body, hs)
  | _ => none
theorem vTryB_eq {s : Stmt} {b : List Stmt} {hs : List ExceptHandler} (h : vTryB s = some (b, hs)) : ∃ pos, s = .Try b hs [] [] pos := by
  unfold vTryB at h
  split at h <;> cases h
  exact ⟨_, rfl⟩
def isPass : Stmt → Bool
  | .Pass _ => true
  | .Expr (.Constant (.str _) _ _) _ => true
  | _ => false
def isBrk : Stmt → Bool
  | .Break _ => true
  | _ => false
def isCnt : Stmt → Bool
  | .Continue _ => true
  | _ => false
def frzOf : S → Option Nat
  | .frz i => some i
  | _ => none
theorem frzOf_eq {s : S} {i : Nat} (h : frzOf s = some i) : s = .frz i := by cases s <;> first | (cases h; done) | (cases h; rfl)
def isNev : S → Bool
  | .never => true
  | _ => false
theorem isNev_eq {s : S} (h : isNev s = true) : s = .never := by cases s <;> first | (cases h; done) | rfl
def locB2 (C : Ctx) (i : Nat) (x : Str) : Bool := decide (C.N[i]? = some x) && decide (C.sc.names.lookup x = some .local)
/-- name = [.. for ..], stored at once -/
def mSetC (C : Ctx) : Tg → E → Expr → Expr → Bool
  | .nm i, .comp _ own b t it cs, tv, ev => match vNm tv, vComp ev with
    | some (x, p), some (elt, et, ei, ecs, scope) => mSet C i x && (decide (C.sc.names.lookup x = some .local) && (blkC C.N C.sc scope (ownN C.N own) && (t.sl.all (fun i => own.contains i) && (plainIt ei && (mI C it et ei && (mG (C.blk scope) t et && (mC (C.blk scope) cs ecs && mE (C.blk scope) b elt)))))))
    | _, _ => false
  | _, _, _, _ => false
def hsOk (C : Ctx) (l : List Hs) : Bool := l.all fun t => nmB C t.1 && (glB C.sc t.1 && okName t.1)
mutual
def mS (C : Ctx) : S → Stmt → Bool
  | .asg t e, s => match vAsg s with
    | some (tv, ev) => (match swc C.sc ev tv with
      | true => mSetC C t e tv ev
      | false => okVal ev && (decide (swp C.sc tv ev = some none) && (noStar [tv] && (mE C e ev && mG C t tv))))
    | none => false
  | .par is es, s => match vPar s with
    | some (ts, vs, k1, p1, k2, p2) => (match is, ts.map vNm, vs with
      | [i, j], [some (x, px), some (y, py)], [a, b] => decide (i ≠ j) && (locB2 C i x && (locB2 C j y && (decide (swp C.sc (.Tuple ts k1 p1) (.Tuple vs k2 p2) = some (some [x, y])) && mEs C es vs)))
      | [i, j, l], [some (x, px), some (y, py), some (z, pz)], [a, b, c] => decide (i ≠ j ∧ i ≠ l ∧ j ≠ l) && (locB2 C i x && (locB2 C j y && (locB2 C l z && (decide (swp C.sc (.Tuple ts k1 p1) (.Tuple vs k2 p2) = some (some [x, y, z])) && mEs C es vs))))
      | _, _, _ => false)
    | none => false
  | .aug i o e, s => match vAug s with
    | some (x, oo, ev) => mSet C i x && (decide (opO o = oo) && mE C e ev)
    | none => false
  | .augS a i o e, s => match vAugS s with
    | some (ea, ei, oo, ev) => decide (opO o = oo) && (!(isSlice ei) && (mE C a ea && (mE C i ei && mE C e ev)))
    | none => false
  | .ifS c a b, s => match vIfS s with
    | some (ec, sa, sb) => mE C c ec && (mSs C a sa && mSs C b sb)
    | none => false
  | .whl c b, s => match vWhl s with
    | some (ec, sb) => mE C c ec && mSs C b sb
    | none => false
  | .forS t it b, s => match vFor s with
    | some (et, ei, sb) => plainIt ei && (mI C it et ei && (mG C t et && mSs C b sb))
    | none => false
  | .ret e, s => match vRet s with
    | some (some ev) => mE C e ev
    | _ => false
  | .retN, s => match vRet s with
    | some none => true
    | _ => false
  | .expr e, s => match vExp s with
    | some ev => isCall ev && mE C e ev
    | none => false
  | .pass, s => isPass s
  | .brk, s => isBrk s
  | .cnt, s => isCnt s
  | .never, _ => true
  | .frz _, _ => false
  | .fldS a f e, s => match vFldS s with
    | some (ea, x, ev) => decide (x = f) && (okVal ev && (mE C a ea && mE C e ev))
    | none => false
  | .fldA _ _ _ _ _, _ => false
  | .raise (.cls c) as, s => match vRaise s with
    | some (x, es) => decide (x = c) && (decide ((c, none) ∈ C.exs) && (glB C.sc c && (okName c && mEs C as es)))
    | none => false
  | .raise (.fld c f) as, s => match vRaise s with
    | some (x, es) => decide (x = c ∧ f ≠ Str.empty) && (decide ((c, some f) ∈ C.exs) && (glB C.sc c && (okName c && mEs C as es)))
    | none => false
  | .tryK b c i j, s => match vTry s with
    | some (sb, x, n, m) => decide (x = c) && (nmB C c && (glB C.sc c && (okName c && (okName n && (locB2 C i n && (locB2 C j m && (decide (i ≠ j) && mSs C b sb)))))))
    | none => false
  | .tryL b cs i j, s => match vTryB s, C.N[i]?, C.N[j]? with
    | some (sb, hs), some n, some m => (match vHds n m hs with
      | some l => decide (l.map (·.1) = cs) && (!(l.isEmpty) && (hsOk C l && (okName n && (locB2 C i n && (locB2 C j m && (decide (i ≠ j) && mSs C b sb))))))
      | none => false)
    | _, _, _ => false
def mSs (C : Ctx) : Ss → List Stmt → Bool
  | .nil, sts => sts.isEmpty
  | .cons s r, sts => isNev s || (match frzOf s with
    | some _ => mSs C r sts
    | none => (match sts with
      | [] => false
      | st :: sts => mS C s st && mSs C r sts))
end
section
variable {G : Prg} {k : Nat}
theorem setC_ok {C : Ctx} {Ex : XKs} {X : Cx} (ok : COk C G k Ex X) {t : Tg} {e : E} {tv ev : Expr} {p : Pos} (hs : swc C.sc ev tv = true) (h : mSetC C t e tv ev = true) : PS X (.Assign [tv] ev p) (tDS X.K Ex (wpS G (.asg t e))) := by
  cases t with
  | nm i =>
    cases e with
    | comp m own b t it cs =>
      unfold mSetC at h
      dsimp only at h
      split at h
      · rename_i x px elt et ei ecs scope e1 e2
        have e1 := vNm_eq e1
        subst e1
        obtain ⟨cp, rfl⟩ := vComp_eq e2
        obtain ⟨g1, r1⟩ := and2 h
        obtain ⟨g2, r2⟩ := and2 r1
        obtain ⟨g3, r3⟩ := and2 r2
        obtain ⟨g4, r4⟩ := and2 r3
        obtain ⟨g5, r5⟩ := and2 r4
        obtain ⟨g6, r6⟩ := and2 r5
        obtain ⟨g7, r7⟩ := and2 r6
        obtain ⟨g8, r8⟩ := and2 r7
        have hk := (blkOk_by g3).kind
        have hsl : ∀ i ∈ t.sl, i ∈ (ownN C.N own).map (·.2) := by
          rw [ownN_snd]
          intro i hi
          have := List.all_eq_true.mp g4 i hi
          simpa using this
        have := ds_setLc (m := m) (spos := p) ok g1 (of_decide_eq_true g2) (mI_ok it et ei ok g6) g3 (fun s H A cl fp => mG_ok t et (ok.blk hk s H A cl fp) g7) (fun s H A cl fp => mC_ok cs ecs (ok.blk hk s H A cl fp) g8) (fun s H A cl fp => (mE_ok b elt (ok.blk hk s H A cl fp) r8).1) hsl g5 hs
        rw [ownN_snd] at this
        exact this
      · cases h
    | _ => exact absurd h Bool.false_ne_true
  | _ => exact absurd h (by cases e <;> exact Bool.false_ne_true)
mutual
theorem mS_ok : ∀ (a : S) (s : Stmt) {C : Ctx} {Ex : XKs} {X : Cx}, COk C G k Ex X → SOk X Ex → mS C a s = true → PS X s (tDS X.K Ex (wpS G a))
  | .asg t e, s, C, Ex, X, ok, so, h => by
    rw [mS] at h
    split at h
    · rename_i tv ev es
      obtain ⟨p, rfl⟩ := vAsg_eq es
      split at h
      · rename_i hs
        exact setC_ok ok hs h
      · rename_i hs
        obtain ⟨g1, r1⟩ := and2 h
        obtain ⟨g2, r2⟩ := and2 r1
        obtain ⟨g3, r3⟩ := and2 r2
        obtain ⟨g4, r4⟩ := and2 r3
        exact ds_asg ok (mE_ok e ev ok g4).1 (mG_ok t tv ok r4) g1 hs (of_decide_eq_true g2) g3
    · cases h
  | .par is es, s, C, Ex, X, ok, so, h => by
    rw [mS] at h
    split at h
    · rename_i ts vs k1 p1 k2 p2 ev
      obtain ⟨p, rfl⟩ := vPar_eq ev
      split at h
      · rename_i i j x px y py a b e1
        match ts, e1 with
        | [t1, t2], e1 =>
          have e1 : [vNm t1, vNm t2] = [some (x, px), some (y, py)] := e1
          injection e1 with q1 e1
          injection e1 with q2 e1
          have q1 := vNm_eq q1
          have q2 := vNm_eq q2
          subst q1 q2
          obtain ⟨g1, r1⟩ := and2 h
          obtain ⟨g2, r2⟩ := and2 r1
          obtain ⟨g3, r3⟩ := and2 r2
          obtain ⟨g4, r4⟩ := and2 r3
          obtain ⟨a1, a2⟩ := and2 g2
          obtain ⟨b1, b2⟩ := and2 g3
          exact ds_par ok (of_decide_eq_true a1) (of_decide_eq_true b1) (of_decide_eq_true g1) (of_decide_eq_true a2) (of_decide_eq_true b2) (mEs_ok es _ ok r4) (of_decide_eq_true g4)
        | [], e1 => simp at e1
        | [_], e1 => simp at e1
        | _ :: _ :: _ :: _, e1 => simp at e1
      · rename_i i j l x px y py z pz a b c e1
        match ts, e1 with
        | [t1, t2, t3], e1 =>
          have e1 : [vNm t1, vNm t2, vNm t3] = [some (x, px), some (y, py), some (z, pz)] := e1
          injection e1 with q1 e1
          injection e1 with q2 e1
          injection e1 with q3 e1
          have q1 := vNm_eq q1
          have q2 := vNm_eq q2
          have q3 := vNm_eq q3
          subst q1 q2 q3
          obtain ⟨g1, r1⟩ := and2 h
          obtain ⟨g2, r2⟩ := and2 r1
          obtain ⟨g3, r3⟩ := and2 r2
          obtain ⟨g4, r4⟩ := and2 r3
          obtain ⟨g5, r5⟩ := and2 r4
          obtain ⟨a1, a2⟩ := and2 g2
          obtain ⟨b1, b2⟩ := and2 g3
          obtain ⟨c1, c2⟩ := and2 g4
          have n := of_decide_eq_true g1
          exact ds_par3 ok (of_decide_eq_true a1) (of_decide_eq_true b1) (of_decide_eq_true c1) n.1 n.2.1 n.2.2 (of_decide_eq_true a2) (of_decide_eq_true b2) (of_decide_eq_true c2) (mEs_ok es _ ok r5) (of_decide_eq_true g5)
        | [], e1 => simp at e1
        | [_], e1 => simp at e1
        | [_, _], e1 => simp at e1
        | _ :: _ :: _ :: _ :: _, e1 => simp at e1
      · cases h
    · cases h
  | .aug i o e, s, C, Ex, X, ok, so, h => by
    rw [mS] at h
    split at h
    · rename_i x oo ev es
      obtain ⟨p, q, rfl⟩ := vAug_eq es
      obtain ⟨g1, r1⟩ := and2 h
      obtain ⟨g2, r2⟩ := and2 r1
      have d2 := of_decide_eq_true g2
      subst d2
      exact ds_aug ok g1 (mE_ok e ev ok r2).1
    · cases h
  | .augS a i o e, s, C, Ex, X, ok, so, h => by
    rw [mS] at h
    split at h
    · rename_i ea ei oo ev es
      obtain ⟨p, q, rfl⟩ := vAugS_eq es
      obtain ⟨g1, r1⟩ := and2 h
      obtain ⟨g2, r2⟩ := and2 r1
      obtain ⟨g3, r3⟩ := and2 r2
      obtain ⟨g4, r4⟩ := and2 r3
      have d1 := of_decide_eq_true g1
      subst d1
      exact ds_augS (mE_ok a ea ok g3).1 (mE_ok i ei ok g4).1 (mE_ok e ev ok r4).1 (not1 g2)
    · cases h
  | .ifS c a b, s, C, Ex, X, ok, so, h => by
    rw [mS] at h
    split at h
    · rename_i ec sa sb es
      obtain ⟨p, rfl⟩ := vIfS_eq es
      obtain ⟨g1, r1⟩ := and2 h
      obtain ⟨g2, r2⟩ := and2 r1
      exact ds_if (mE_ok c ec ok g1).2.pt (mSs_ok a sa ok so g2) (mSs_ok b sb ok so r2)
    · cases h
  | .whl c b, s, C, Ex, X, ok, so, h => by
    rw [mS] at h
    split at h
    · rename_i ec sb es
      obtain ⟨p, rfl⟩ := vWhl_eq es
      obtain ⟨g1, r1⟩ := and2 h
      exact ds_while ok (mE_ok c ec ok g1).2.pt (mSs_ok b sb ok so r1)
    · cases h
  | .forS t it b, s, C, Ex, X, ok, so, h => by
    rw [mS] at h
    split at h
    · rename_i et ei sb es
      obtain ⟨p, rfl⟩ := vFor_eq es
      obtain ⟨g1, r1⟩ := and2 h
      obtain ⟨g2, r2⟩ := and2 r1
      obtain ⟨g3, r3⟩ := and2 r2
      exact ds_for ok (mI_ok it et ei ok g2) (mG_ok t et ok g3) (mSs_ok b sb ok so r3) g1
    · cases h
  | .ret e, s, C, Ex, X, ok, so, h => by
    rw [mS] at h
    split at h
    · rename_i ev es
      obtain ⟨p, rfl⟩ := vRet_eq es
      exact ds_ret (mE_ok e ev ok h).1
    · cases h
  | .retN, s, C, Ex, X, ok, so, h => by
    rw [mS] at h
    split at h
    · rename_i es
      obtain ⟨p, rfl⟩ := vRet_eq es
      exact ds_retN
    · cases h
  | .expr e, s, C, Ex, X, ok, so, h => by
    rw [mS] at h
    split at h
    · rename_i ev es
      obtain ⟨p, rfl⟩ := vExp_eq es
      obtain ⟨g1, r1⟩ := and2 h
      exact ds_expr (mE_ok e ev ok r1).1 g1
    · cases h
  | .pass, s, C, Ex, X, ok, so, h => by
    rw [mS] at h
    unfold isPass at h
    split at h
    · exact ds_pass
    · exact ps_doc.weak fun N σ H ⟨ρ, h, Nd, Ed, re, hr, t, c, cx⟩ => c.nx ρ h σ H Frm.refl hr re t
    · cases h
  | .brk, s, C, Ex, X, ok, so, h => by
    rw [mS] at h
    cases s <;> first | exact ds_brk | (cases h; done)
  | .cnt, s, C, Ex, X, ok, so, h => by
    rw [mS] at h
    cases s <;> first | exact ds_cnt | (cases h; done)
  | .never, s, C, Ex, X, ok, so, h => by
    exact ds_never
  | .frz i, s, C, Ex, X, ok, so, h => by
    rw [mS] at h; cases h
  | .fldS a f e, s, C, Ex, X, ok, so, h => by
    rw [mS] at h
    split at h
    · rename_i ea x ev es
      obtain ⟨p, q, rfl⟩ := vFldS_eq es
      obtain ⟨g1, r1⟩ := and2 h
      obtain ⟨g2, r2⟩ := and2 r1
      obtain ⟨g3, r3⟩ := and2 r2
      have d1 := of_decide_eq_true g1
      subst d1
      exact ds_fldS ok (mE_ok a ea ok g3).1 (mE_ok e ev ok r3).1 g2
    · cases h
  | .fldA _ _ _ _ _, s, C, Ex, X, ok, so, h => by
    rw [mS] at h; cases h
  | .raise (.cls c) as, s, C, Ex, X, ok, so, h => by
    rw [mS] at h
    split at h
    · rename_i x es ev
      obtain ⟨e, es', p, q, r, rfl, rfl⟩ := vRaise_eq ev
      obtain ⟨g1, r1⟩ := and2 h
      obtain ⟨g2, r2⟩ := and2 r1
      obtain ⟨g3, r3⟩ := and2 r2
      obtain ⟨g4, r4⟩ := and2 r3
      have d1 := of_decide_eq_true g1
      subst d1
      exact ds_raise0 (Ts := wpA G as) ok so (of_decide_eq_true g2) g3 g4 (mEs_ok as _ ok r4) (mEs_star r4)
    · cases h
  | .raise (.fld c f) as, s, C, Ex, X, ok, so, h => by
    rw [mS] at h
    split at h
    · rename_i x es ev
      obtain ⟨e, es', p, q, r, rfl, rfl⟩ := vRaise_eq ev
      obtain ⟨g1, r1⟩ := and2 h
      obtain ⟨g2, r2⟩ := and2 r1
      obtain ⟨g3, r3⟩ := and2 r2
      obtain ⟨g4, r4⟩ := and2 r3
      obtain ⟨d1, d2⟩ := of_decide_eq_true g1
      subst d1
      exact ds_raise1 (Ts := wpA G as) ok so d2 (of_decide_eq_true g2) g3 g4 (mEs_ok as _ ok r4) (mEs_star r4)
    · cases h
  | .tryK b c i j, s, C, Ex, X, ok, so, h => by
    rw [mS] at h
    split at h
    · rename_i sb x n m ev
      obtain ⟨np, mp, qp, sp, pos', pos, rfl⟩ := vTry_eq ev
      obtain ⟨g1, r1⟩ := and2 h
      obtain ⟨g2, r2⟩ := and2 r1
      obtain ⟨g3, r3⟩ := and2 r2
      obtain ⟨g4, r4⟩ := and2 r3
      obtain ⟨g5, r5⟩ := and2 r4
      obtain ⟨g6, r6⟩ := and2 r5
      obtain ⟨g7, r7⟩ := and2 r6
      obtain ⟨g8, r8⟩ := and2 r7
      have d1 := of_decide_eq_true g1
      subst d1
      obtain ⟨a1, a2⟩ := and2 g6
      obtain ⟨b1, b2⟩ := and2 g7
      exact ds_tryK (V := wpSs G b) ok so (nmB_ok g2) g3 g4 g5 (of_decide_eq_true a1) (of_decide_eq_true a2) (of_decide_eq_true b1) (of_decide_eq_true b2) (of_decide_eq_true g8) fun E' pn xe ok' so' => mSs_ok b sb ok' so' r8
    · cases h
  | .tryL b cs i j, s, C, Ex, X, ok, so, h => by
    rw [mS] at h
    split at h
    · rename_i sb hs n m ev _ _
      obtain ⟨pos, rfl⟩ := vTryB_eq ev
      split at h
      · rename_i l el
        obtain ⟨g1, r1⟩ := and2 h
        obtain ⟨g2, r2⟩ := and2 r1
        obtain ⟨g3, r3⟩ := and2 r2
        obtain ⟨g5, r5⟩ := and2 r3
        obtain ⟨g6, r6⟩ := and2 r5
        obtain ⟨g7, r7⟩ := and2 r6
        obtain ⟨g8, r8⟩ := and2 r7
        have d1 := of_decide_eq_true g1
        subst d1
        obtain ⟨a1, a2⟩ := and2 g6
        obtain ⟨b1, b2⟩ := and2 g7
        cases l with
        | nil => cases g2
        | cons t l =>
          rw [vHds_eq (K := X.K) el]
          exact ds_tryL (V := wpSs G b) ok so (fun u hu => by
            obtain ⟨z1, z⟩ := and2 (List.all_eq_true.mp g3 u hu)
            obtain ⟨z2, z3⟩ := and2 z
            exact ⟨nmB_ok z1, z2, z3⟩) g5 (of_decide_eq_true a1) (of_decide_eq_true a2) (of_decide_eq_true b1) (of_decide_eq_true b2) (of_decide_eq_true g8) fun E' pn xe ok' so' => mSs_ok b sb ok' so' r8
      · cases h
    · cases h
theorem mSs_ok : ∀ (a : Ss) (s : List Stmt) {C : Ctx} {Ex : XKs} {X : Cx}, COk C G k Ex X → SOk X Ex → mSs C a s = true → PSs X s (tDS X.K Ex (wpSs G a))
  | .nil, s, C, Ex, X, ok, so, h => by
    rw [mSs] at h
    rw [emp1 h]
    exact dss_nil
  | .cons a r, s, C, Ex, X, ok, so, h => by
    cases hn : isNev a with
    | true =>
      have e := isNev_eq hn
      subst e
      refine dss_never fun ρ h N Xd q => ?_
      exact q
    | false =>
      cases hf : frzOf a with
      | some i =>
        have e := frzOf_eq hf
        subst e
        have h : mSs C r s = true := by
          cases s with
          | nil => rw [mSs] at h; simpa [isNev, frzOf] using h
          | cons => rw [mSs] at h; simpa [isNev, frzOf] using h
        have := dss_frz (i := i) (mSs_ok r s ok so h)
        exact this
      | none =>
        cases s with
        | nil => rw [mSs, hn, hf] at h; cases h
        | cons st sts =>
          rw [mSs, hn, hf] at h
          have h : (mS C a st && mSs C r sts) = true := h
          obtain ⟨g1, r1⟩ := and2 h
          have := dss_cons (mS_ok a st ok so g1) (mSs_ok r sts ok so r1)
          exact this
end
end
end Y
namespace Y
open PySem PySem.Spec PyProof.Rows L2

/-! ### constants of the module, by data -/
def leafB : D → Value → Bool
  | .non, .none => true
  | .bl b, .bool c => decide (b = c)
  | .int i, .int j _ => decide (i = j)
  | .str x, .str y _ => decide (x = y)
  | _, _ => false
theorem leaf_ok {K : PySem.W.Frag} {d : D} {u : Value} (e : leafB d u = true) : ∃ v, RelV v u ∧ ∀ H h, Rep K H h d v := by
  unfold leafB at e
  split at e
  · exact ⟨.non, rfl, fun _ _ => .non⟩
  · exact ⟨.bl _, by rw [of_decide_eq_true e]; rfl, fun _ _ => .bl _⟩
  · exact ⟨.int _, by rw [of_decide_eq_true e]; exact ⟨_, rfl⟩, fun _ _ => .int _⟩
  · exact ⟨.str _, by rw [of_decide_eq_true e]; exact ⟨_, rfl⟩, fun _ _ => .str _⟩
  · cases e
def asTup (K : PySem.W.Frag) : Value → Option (List Value)
  | .ref a => match K.lookup a with
    | some ⟨.type c, _, .seq its _, _⟩ => if c = "tuple" ∧ its.size ≤ sizeLine then some its.toList else none
    | _ => none
  | _ => none
theorem asTup_ok {K : PySem.W.Frag} {u : Value} {us : List Value} (e : asTup K u = some us) : ∃ a, u = .ref a ∧ ∀ vs, Vals vs us → Kn K a vs := by
  unfold asTup at e
  split at e
  · rename_i a
    split at e
    · rename_i c dx its n sl q
      split at e
      · rename_i hc
        cases e
        exact ⟨a, rfl, fun vs rv => ⟨_, its, n, q, congrArg Value.type hc.1, rfl, hc.2, rv⟩⟩
      · cases e
    · cases e
  · cases e
mutual
def dB (K : PySem.W.Frag) : D → Value → Bool
  | .tup ds, u => match asTup K u with
    | some us => dsB K ds us
    | none => false
  | d, u => leafB d u
def dsB (K : PySem.W.Frag) : List D → List Value → Bool
  | [], us => us.isEmpty
  | d :: ds, us => match us with
    | [] => false
    | u :: us => dB K d u && dsB K ds us
end
mutual
theorem dB_ok {K : PySem.W.Frag} : ∀ {d : D} {u : Value}, dB K d u = true → ∃ v, RelV v u ∧ ∀ H h, Rep K H h d v
  | .tup ds, u, e => by
    rw [dB] at e
    split at e
    · rename_i us q
      obtain ⟨a, rfl, k⟩ := asTup_ok q
      obtain ⟨vs, rv, rp⟩ := dsB_ok e
      exact ⟨.ref a, rfl, fun H h => .tupK (k vs rv) (rp H h)⟩
    · cases e
  | .non, u, e => leaf_ok (by simpa [dB] using e)
  | .bl _, u, e => leaf_ok (by simpa [dB] using e)
  | .int _, u, e => leaf_ok (by simpa [dB] using e)
  | .str _, u, e => leaf_ok (by simpa [dB] using e)
  | .ref _, u, e => leaf_ok (by simpa [dB] using e)
  | .lst _, u, e => leaf_ok (by simpa [dB] using e)
  | .ins _ _ _, u, e => leaf_ok (by simpa [dB] using e)
  | .dct _ _, u, e => leaf_ok (by simpa [dB] using e)
  | .scr _, u, e => leaf_ok (by simpa [dB] using e)
  | .exc _ _ _, u, e => leaf_ok (by simpa [dB] using e)
theorem dsB_ok {K : PySem.W.Frag} : ∀ {ds : List D} {us : List Value}, dsB K ds us = true → ∃ vs, Vals vs us ∧ ∀ H h, Reps K H h ds vs
  | [], us, e => by
    rw [dsB] at e
    rw [emp1 e]
    exact ⟨[], .nil, fun _ _ => .nil⟩
  | d :: ds, us, e => by
    cases us with
    | nil => cases e
    | cons u us =>
      rw [dsB] at e
      obtain ⟨e1, e2⟩ := and2 e
      obtain ⟨v, r1, p1⟩ := dB_ok e1
      obtain ⟨vs, r2, p2⟩ := dsB_ok e2
      exact ⟨v :: vs, .cons r1 r2, fun H h => .cons (p1 H h) (p2 H h)⟩
end
abbrev Cn := Str × D
def cnB (K : PySem.W.Frag) (c : Cn) : Bool := match PySem.W.nsIn K mainGlobals c.1 with
  | some (some u) => dB K c.2 u
  | _ => false

/-! ### what is read of the classes -/
structure Tab where
  cns : List Cn
  clss : List Str := []
  xs : List (Str × Bs × Option Str) := []
  inis : List (Bs × Str) := []
  fl : List (Str × Str) := []
  sub : List (Str × List (Str × Bool)) := []
  subB : List (Str × List (Str × Bool)) := []
  xfl : List (Str × Str) := []
  kt : Bool := true
def assoc2 (l : List (Str × List (Str × Bool))) (a b : Str) : Option Bool := match l.lookup a with
  | some r => r.lookup b
  | none => none
def Tab.exs (T : Tab) : List (Str × Option Str) := T.xs.map fun p => (p.1, p.2.2)
def Tab.flF (T : Tab) (c f : Str) : Bool := T.fl.any fun p => decide (p = (c, f))
def Tab.xflF (T : Tab) (c f : Str) : Bool := T.xfl.any fun p => decide (p = (c, f))
def Tab.ocF (T : Tab) (c : Str) : Bool := T.clss.any fun p => decide (p = c)
def Tab.subF (T : Tab) : Str → Str → Option Bool := assoc2 T.sub
def Tab.subBF (T : Tab) : Str → Str → Option Bool := assoc2 T.subB
def gloB (K : PySem.W.Frag) (c : Str) : Bool := (He.Fa.glo c).ok K
def ktB (K : PySem.W.Frag) (c : Str) : Bool := tyNms.all fun n => decide (PySem.W.kitOne K (.type n) (.ref (He.ga K c)) = some false)
def clsB (K : PySem.W.Frag) (c : Str) : Bool := gloB K c && ((He.Fa.cls c).ok K && (PySem.W.makesIn K (He.ga K c) && (PySem.W.keepIn K (.ref (He.ga K c)) && isFB K (He.ga K c))))
def excCB (K : PySem.W.Frag) (D : Addr) : Bool := xfB K D && isFB K D
theorem excCB_ok {K : PySem.W.Frag} {D : Addr} (h : excCB K D = true) : ExcC K D := by
  obtain ⟨h1, h2⟩ := and2 h
  have a := xfB_ok h1
  have b := isFB_ok h2
  exact ⟨a.ga, a.gg, a.exC, a.hdC, b.ha, b.hn, b.ht, b.hm⟩
def xB (K : PySem.W.Frag) (p : Str × Bs × Option Str) : Bool := gloB K p.1 && (match p.2.2 with
  | none => PySem.W.keepIn K (.ref (He.ga K p.1)) && (decide (PySem.W.subIn K (.ref (He.ga K p.1)) (.type "BaseException") = some true) && (decide (PySem.W.typeIn K (.ref (He.ga K p.1)) = some (.type "type")) && PySem.W.excIn K (He.ga K p.1) p.2.1.bm p.2.1.newId))
  | some f => decide (f = Str.empty) || exbB p.2.1 K (He.ga K p.1) && (decide (PySem.W.findIn K (.ref (He.ga K p.1)) "__init__" = some (some (.ref (He.ma K (He.ga K p.1) "__init__")))) && (decide (PySem.W.typeIn K (.ref (He.ma K (He.ga K p.1) "__init__")) = some (.type "function")) && decide (PySem.W.findIn K (.ref (He.ga K p.1)) f = some none))))
def sub1B (K : PySem.W.Frag) (a : Str) (q : Str × Bool) : Bool := decide (PySem.W.exmOne K (.ref (He.ga K a)) (.ref (He.ga K q.1)) = some q.2) && decide (PySem.W.kitOne K (.ref (He.ga K a)) (.ref (He.ga K q.1)) = some q.2)
def subB1B (K : PySem.W.Frag) (a : Str) (q : Str × Bool) : Bool := match isBE q.1 with
  | some n => decide (PySem.W.kitOne K (.ref (He.ga K a)) (.type n) = some q.2) && PySem.W.kitMeta n
  | none => false
structure Tab.Ok (T : Tab) (K : PySem.W.Frag) : Prop where
  cns : T.cns.all (cnB K) = true
  clss : T.clss.all (clsB K) = true
  nms : (T.clss ++ T.xs.map (·.1)).all (fun c => gloB K c && (!T.kt || ktB K c)) = true
  xs : T.xs.all (xB K) = true
  inis : T.inis.all (fun p => gloB K p.2 && iniBB p.1 K (He.ga K p.2)) = true
  ock : T.clss.all (fun a => T.clss.all fun b => decide (PySem.W.kitOne K (.ref (He.ga K a)) (.ref (He.ga K b)) = some (decide (a = b)))) = true
  fl : T.fl.all (fun p => (He.Fa.cls p.1).ok K && (He.Fa.noat p.1 p.2).ok K) = true
  sub : T.sub.all (fun p => excCB K (He.ga K p.1) && p.2.all (sub1B K p.1)) = true
  subB : T.subB.all (fun p => excCB K (He.ga K p.1) && p.2.all (subB1B K p.1)) = true
  xfl : T.xfl.all (fun p => xfB K (He.ga K p.1) && decide (PySem.W.findIn K (.ref (He.ga K p.1)) p.2 = some none)) = true
def Tab.ok (T : Tab) (K : PySem.W.Frag) : List Bool :=
  [T.cns.all (cnB K), T.clss.all (clsB K), (T.clss ++ T.xs.map (·.1)).all (fun c => gloB K c && (!T.kt || ktB K c)), T.xs.all (xB K), T.inis.all (fun p => gloB K p.2 && iniBB p.1 K (He.ga K p.2)),
   T.clss.all (fun a => T.clss.all fun b => decide (PySem.W.kitOne K (.ref (He.ga K a)) (.ref (He.ga K b)) = some (decide (a = b)))), T.fl.all (fun p => (He.Fa.cls p.1).ok K && (He.Fa.noat p.1 p.2).ok K),
   T.sub.all (fun p => excCB K (He.ga K p.1) && p.2.all (sub1B K p.1)), T.subB.all (fun p => excCB K (He.ga K p.1) && p.2.all (subB1B K p.1)), T.xfl.all (fun p => xfB K (He.ga K p.1) && decide (PySem.W.findIn K (.ref (He.ga K p.1)) p.2 = some none))]
theorem Tab.ok_ok {T : Tab} {K : PySem.W.Frag} (h : T.ok K = [true, true, true, true, true, true, true, true, true, true]) : T.Ok K := by
  unfold Tab.ok at h
  simp only [List.cons.injEq, and_true] at h
  obtain ⟨h1, h2, h3, h4, h5, h6, h7, h8, h9, h10⟩ := h
  exact ⟨h1, h2, h3, h4, h5, h6, h7, h8, h9, h10⟩

/-! ### the head's facts -/
abbrev AlY : Type := He.AlD × List Bool
def obsY (fa : List He.Fa) (fn : List He.DefD) (T : Tab) (K : PySem.W.Frag) : AlY := (He.obsD fa fn K, T.ok K)
def valY (fn : List He.DefD) : AlY := (He.valD fn, [true, true, true, true, true, true, true, true, true, true])
def SaysY (fa : List He.Fa) (fn : List He.DefD) (T : Tab) (K : PySem.W.Frag) : Prop := obsY fa fn T K = valY fn
def frY (n : Nat) (g : Addr → Option Obj) : PySem.W.Frag := He.frG g (cStatics :: He.asD g n)
def obsYG (n : Nat) (fa : List He.Fa) (fn : List He.DefD) (T : Tab) (g : Addr → Option Obj) : AlY := obsY fa fn T (frY n g)
def hookY (n : Nat) (fa : List He.Fa) (fn : List He.DefD) (T : Tab) : PySem.W.Hook where
  α := AlY
  obs := fun s => obsYG n fa fn T s.heap.get?
  val := fun _ => valY fn
  says := fun _ h => ∃ K : PySem.W.Frag, K.In h ∧ SaysY fa fn T K
  of := fun _ _ e => ⟨_, He.frG_in, e⟩
  keeps := fun _ _ _ q k => q.imp fun K z => ⟨PySem.W.Frag.In.keeps z.1 k, z.2⟩
theorem obsYG_eq {n : Nat} {fa : List He.Fa} {fn : List He.DefD} {T : Tab} {g : Addr → Option Obj} {s : Shared} (h : ∀ a, g a = s.heap.get? a) : obsYG n fa fn T g = (hookY n fa fn T).obs s := by
  have : g = s.heap.get? := funext h
  subst this
  rfl
theorem SaysY.d {fa : List He.Fa} {fn : List He.DefD} {T : Tab} {K : PySem.W.Frag} (c : SaysY fa fn T K) : He.SaysD fa fn K := (Prod.mk.inj c).1
theorem SaysY.c {fa : List He.Fa} {fn : List He.DefD} {T : Tab} {K : PySem.W.Frag} (c : SaysY fa fn T K) : T.Ok K := Tab.ok_ok (Prod.mk.inj c).2

/-! ### the defs, one behind another -/
section
variable {P : Program} {w : World} {K : PySem.W.Frag} {mg : Str → Option Value} {base : Heap}
def FnG (P : Program) (w : World) (K : PySem.W.Frag) (mg : Str → Option Value) (base : Heap) (k : Nat) (i : FnI) (S : Spec) : Prop :=
  ∃ a fd, FnOk P w K mg base (L2.CX P w) k a fd i.ps (toSp K i.ps.length S) ∧ ReachF K mg i a ∧ ∀ sh ∈ i.shapes, KSh K fd i.ps sh
theorem FnG.mono {j k : Nat} {i : FnI} {S : Spec} (h : j ≤ k) : FnG P w K mg base j i S → FnG P w K mg base k i S
  | ⟨a, fd, F, m, sh⟩ => ⟨a, fd, F.mono h, m, sh⟩
/-- all defs of a table keep their promises -/
def All (P : Program) (w : World) (K : PySem.W.Frag) (mg : Str → Option Value) (base : Heap) (G : Prg) (k : Nat) (T : List (Nat × FnI)) : Prop :=
  ∀ f i, T.lookup f = some i → FnG P w K mg base k i (G.Φ f) ∧ ∀ (s : Nat) sh, i.shapes[s]? = some sh → G.sh f s = sh
theorem All.nil {G : Prg} : All P w K mg base G 4 [] := fun f i e => by cases e
theorem All.cons {G : Prg} {k f : Nat} {i : FnI} {T : List (Nat × FnI)} (a : All P w K mg base G k T) (g : FnG P w K mg base (k + 4) i (G.Φ f)) (hs : ∀ (s : Nat) sh, i.shapes[s]? = some sh → G.sh f s = sh) : All P w K mg base G (k + 4) ((f, i) :: T) := fun f' i' e => by
  rw [List.lookup_cons] at e
  cases q : f' == f with
  | true =>
    rw [q] at e
    have e : some i = some i' := e
    cases e
    have : f' = f := by simpa using q
    subst this
    exact ⟨g, hs⟩
  | false =>
    rw [q] at e
    obtain ⟨g', h'⟩ := a f' i' e
    exact ⟨g'.mono (Nat.le_add_right _ _), h'⟩
@[reducible] def startE : List Str → List D → DEnv
  | [], _ => []
  | _ :: N, [] => none :: startE N []
  | _ :: N, d :: ds => some d :: startE N ds
theorem startE_eq : ∀ {N : List Str} {ds : List D}, ds.length ≤ N.length → startE N ds = ds.map some ++ List.replicate (N.length - ds.length) none
  | [], [], _ => rfl
  | [], _ :: _, h => by simp at h
  | _ :: N, [], _ => by
    have ih := startE_eq (N := N) (ds := []) (Nat.zero_le _)
    show none :: startE N [] = _
    rw [ih]
    simp [List.replicate_succ]
  | _ :: N, d :: ds, h => by
    have ih := startE_eq (N := N) (ds := ds) (by simpa using h)
    show some d :: startE N ds = _
    rw [ih]
    simp
theorem map_get {α β : Type} {f : α → β} : ∀ {l : List α} {i : Nat}, (l.map f)[i]? = (l[i]?).map f := by
  intro l i
  exact List.getElem?_map
theorem relE_start {N : List Str} {H : Hp} {h : Hd} {ds : List D} {vs : List V} (r : Reps K H h ds vs) (hN : ds.length ≤ N.length) : RelE K H h (startE N ds) (L2.start N vs) := by
  have hl := r.length
  rw [startE_eq hN]
  refine ⟨by unfold L2.start; simp [hl], fun i d e => ?_⟩
  unfold L2.start
  by_cases hi : i < ds.length
  · rw [List.getElem?_append_left (by simpa using hi), map_get] at e
    cases q : ds[i]? with
    | none => rw [q] at e; cases e
    | some d' =>
      rw [q] at e; cases e
      obtain ⟨v, e1, r1⟩ := r.get q
      exact ⟨v, by rw [List.getElem?_append_left (by simpa [← hl] using hi), map_get, e1]; rfl, r1⟩
  · rw [List.getElem?_append_right (by simpa using hi)] at e
    rw [List.getElem?_replicate] at e
    split at e <;> cases e
/-- what the walk of a body must give -/
def Meets (G : Prg) (N : List Str) (n : Nat) (b : Ss) (S : Spec) : Prop := ∀ ds h Q Xd, ds.length = n → S ds h Q Xd → wpSs G b (startE N ds) h { nx := fun _ h' => Q .non h', rt := Q } (fun _ => Xd)
/-- what the module's part tells, for all defs -/
structure KOk (P : Program) (w : World) (K : PySem.W.Frag) (mg : Str → Option Value) (base : Heap) (G : Prg) (clss : List Str) (exs : List (Str × Option Str)) (k : Nat) : Prop where
  fl : ∀ c f, G.fl c f = true → Cls K (He.ga K c) ∧ NoAttr K (He.ga K c) f
  cls : ∀ c ∈ clss, ClsOk K mg c
  oc : ∀ c, G.oc c = true → c ∈ clss
  ock : ∀ a b, G.oc a = true → G.oc b = true → PySem.W.kitOne K (.ref (He.ga K a)) (.ref (He.ga K b)) = some (decide (a = b))
  nms : ∀ c, (c ∈ clss ∨ ∃ o, (c, o) ∈ exs) → KtOk K mg G.kt c
  exs : ∀ p ∈ exs, ExOk P w K mg base k p.1 p.2
  sub : ∀ a b r, G.sub a b = some r → SubOk K a b r
  subB : ∀ a b r, G.subB a b = some r → SubBOk K a b r
  xfl : ∀ c f, G.xfl c f = true → XfC K (He.ga K c) ∧ PySem.W.findIn K (.ref (He.ga K c)) f = some none
theorem ExOk.mono {j k : Nat} {c : Str} (h : j ≤ k) : ∀ {o : Option Str}, ExOk P w K mg base j c o → ExOk P w K mg base k c o
  | none, e => e
  | some f, ⟨h1, hx⟩ => ⟨h1, fun ne => let ⟨b, a, fd, ps, kf, T, iC, tI, hk, F, hB⟩ := hx ne; ⟨b, a, fd, ps, kf, T, iC, tI, Nat.le_trans hk h, F, hB⟩⟩
theorem KOk.mono {j k : Nat} {G : Prg} {clss : List Str} {exs : List (Str × Option Str)} (h : j ≤ k) (o : KOk P w K mg base G clss exs j) : KOk P w K mg base G clss exs k :=
  { o with exs := fun p hp => (o.exs p hp).mono h }
/-- one more def -/
theorem fn_ok {fd : FuncData} {a : Addr} {x qual : Str} {params : Arguments} {body : List Stmt} {scope : Scope} {dvs : List V} {kws : List (Str × V)} {G : Prg} {k : Nat} {i : FnI} {N : List Str} {T : List (Nat × FnI)} {cns free clss : List Str} {exs : List (Str × Option Str)} {b : Ss} {S : Spec}
    (F : FunD K x qual params body scope dvs kws a fd) (hsc : C8.scC N i.ps scope = true) 
    (hfree : ∀ x ∈ free, mg x = none) (hcn : ∀ (j : Nat) x, cns[j]? = some x → ∃ u v, mg x = some u ∧ RelV v u ∧ ∀ H h, Rep K H h (G.Γ j) v)
    (hK : KOk P w K mg base G clss exs 4) (h4 : 4 ≤ k)
    (hT : All P w K mg base G k T) (hb : mSs ⟨N, scope, fun _ => true, T, cns, free, clss, exs⟩ b body = true) (hS : Meets G N i.ps.length b S) : FnOk P w K mg base (L2.CX P w) (k + 4) a fd i.ps (toSp K i.ps.length S) := by
  have Sc := C8.fnScope_by hsc
  refine F.ok (k := k + 3) Sc (fun vs H Q E h => ?_) (fun cdv A outer s H vs Q E hr h => ?_)
  · obtain ⟨ds, hh, Qd, Ed, l, _⟩ := h
    exact l
  · obtain ⟨ds, hh, Qd, Ed, l, rs, hrel, hs, c, cx⟩ := h
    generalize hX : cxOf (L2.CX P w) P w K mg base N qual scope a cdv A outer s H E = X
    have kk := hK.mono (show 4 ≤ k + 3 by omega)
    have ok : COk ⟨N, scope, fun _ => true, T, cns, free, clss, exs⟩ G (k + 3) (fun _ => E) X := by
      subst hX
      exact { N := rfl, nd := Sc.nd, sc := rfl, kind := Sc.kind, fnc := rfl, calm := rfl, room := hr, free := hfree, cns := hcn, fl := kk.fl,
              fns := fun f i e => ⟨⟨let ⟨a, fd, F, m, sh⟩ := (hT f i e).1; ⟨a, fd, k, Nat.le_refl _, F, m, sh⟩⟩, (hT f i e).2⟩,
              cls := kk.cls, oc := kk.oc, ock := kk.ock, nms := kk.nms, exs := kk.exs, sub := kk.sub, subB := kk.subB, xfl := kk.xfl,
              px := fun σ => passAt (takes_of rfl rfl rfl rfl) σ, po := passes_of rfl }
    have so : SOk X (fun _ => E) := by
      subst hX
      exact ⟨rfl, rfl, rfl, takes_of rfl rfl rfl rfl⟩
    have eK : X.K = K := by subst hX; rfl
    refine ⟨_, mSs_ok b body ok so hb, ?_⟩
    rw [eK]
    have hpl : ds.length ≤ N.length := by
      have h1 := congrArg List.length Sc.pre
      rw [List.length_take] at h1
      have h2 : ds.length = i.ps.length := rs.length.trans l
      omega
    refine ⟨startE N ds, hh, _, fun _ => Ed, relE_start rs hpl, hrel, hS ds hh Qd Ed (rs.length.trans l) hs, ⟨fun ρ1 h1 σ1 H1 f1 hr1 re1 q1 => ?_, c, fun _ _ _ _ _ _ _ q => q.elim, fun _ _ _ _ _ _ _ q => q.elim⟩, fun ρ1 h1 σ1 H1 f1 hr1 re1 => cx.frm f1⟩
    exact c .non h1 .non H1 f1 hr1 .non q1
/-- a method -/
theorem fn_mkM {fd : FuncData} {x qual c m : Str} {params : Arguments} {body : List Stmt} {scope : Scope} {dvs : List V} {kws : List (Str × V)} {k : Nat} {i : FnI} {S : Spec} {a : Addr}
    (F : FunD K x qual params body scope dvs kws a fd) (ho : i.own = some (c, m)) (ea : a = He.ma K (He.ga K c) m) (hc : Cls K (He.ga K c)) (hm : (He.Fa.meth c m).ok K = true) (hsh : ∀ sh ∈ i.shapes, KSh K fd i.ps sh) (h : FnOk P w K mg base (L2.CX P w) k a fd i.ps (toSp K i.ps.length S)) : FnG P w K mg base k i S :=
  ⟨a, fd, h, by unfold ReachF; rw [ho]; subst ea; exact ⟨hc, He.meth_ok hm⟩, hsh⟩
theorem fn_mk {fd : FuncData} {a : Addr} {x qual : Str} {params : Arguments} {body : List Stmt} {scope : Scope} {dvs : List V} {kws : List (Str × V)} {k : Nat} {i : FnI} {S : Spec}
    (F : FunD K x qual params body scope dvs kws a fd) (ho : i.own = none) (hm : mg i.name = some (.ref a)) (hsh : ∀ sh ∈ i.shapes, KSh K fd i.ps sh) (h : FnOk P w K mg base (L2.CX P w) k a fd i.ps (toSp K i.ps.length S)) : FnG P w K mg base k i S := ⟨a, fd, h, by unfold ReachF; rw [ho]; exact ⟨hm, F.kp⟩, hsh⟩
theorem kshs_nil {fd : FuncData} {ps : List Str} : ∀ sh ∈ ([] : List Shape), KSh K fd ps sh := fun sh h => by cases h
theorem kshs_cons {fd : FuncData} {ps : List Str} {s : Shape} {l : List Shape} (h1 : KSh K fd ps s) (h2 : ∀ sh ∈ l, KSh K fd ps sh) : ∀ sh ∈ s :: l, KSh K fd ps sh := fun sh h => by
  rcases List.mem_cons.mp h with e | h
  · rw [e]; exact h1
  · exact h2 sh h
theorem fact_mem {fa : List He.Fa} {fn : List He.DefD} (c : He.SaysD fa fn K) {f : He.Fa} (h : f ∈ fa) : f.ok K = true :=
  List.all_eq_true.mp (and2 (show ((fa.all fun f => f.ok K) && fn.all fun d => d.ok K) = true from (Prod.mk.inj c).1)).1 f h
theorem free_all {h : Heap} {names free : List Str} {more : List He.Fa} {fn : List He.DefD} (X : K.In h) (G0 : h.Ns mainGlobals mg) (c : He.SaysD (names.map He.Fa.glo ++ (free.map He.Fa.free ++ more)) fn K) : ∀ x ∈ free, mg x = none := fun x hx =>
  He.free_ok X G0 (fact_mem c (List.mem_append_right _ (List.mem_append_left _ (List.mem_map_of_mem hx))))
theorem glo_all {h : Heap} {names free : List Str} {more : List He.Fa} {fn : List He.DefD} (X : K.In h) (G0 : h.Ns mainGlobals mg) (c : He.SaysD (names.map He.Fa.glo ++ (free.map He.Fa.free ++ more)) fn K) {x : Str} (hx : x ∈ names) : mg x = some (.ref (He.ga K x)) :=
  He.glo_ok X G0 (fact_mem c (List.mem_append_left _ (List.mem_map_of_mem hx)))
theorem more_all {names free : List Str} {more : List He.Fa} {fn : List He.DefD} (c : He.SaysD (names.map He.Fa.glo ++ (free.map He.Fa.free ++ more)) fn K) {f : He.Fa} (hx : f ∈ more) : f.ok K = true :=
  fact_mem c (List.mem_append_right _ (List.mem_append_right _ hx))
/-! ### the table told -/
theorem lookup_mem {α β : Type} [BEq α] [LawfulBEq α] {a : α} {b : β} : ∀ {l : List (α × β)}, l.lookup a = some b → (a, b) ∈ l
  | [], e => by cases e
  | (x, y) :: r, e => by
    rw [List.lookup_cons] at e
    cases q : a == x with
    | true => rw [q] at e; cases e; rw [beq_iff_eq.mp q]; exact List.mem_cons_self
    | false => rw [q] at e; exact List.mem_cons_of_mem _ (lookup_mem e)
theorem assoc2_mem {l : List (Str × List (Str × Bool))} {a b : Str} {r : Bool} (e : assoc2 l a b = some r) : ∃ q, (a, q) ∈ l ∧ (b, r) ∈ q := by
  unfold assoc2 at e
  split at e
  · rename_i q e1
    exact ⟨q, lookup_mem e1, lookup_mem e⟩
  · cases e
/-- the __init__ of an exception's class, told -/
def IniOk (P : Program) (w : World) (K : PySem.W.Frag) (mg : Str → Option Value) (base : Heap) (c : Str) (b : Bs) (f : Str) : Prop := ∃ fd ps, FnOk P w K mg base (L2.CX P w) 1 (He.ma K (He.ga K c) "__init__") fd ps (spX K b (He.ga K c) f) ∧ Binds K fd ps []
def IniAll (P : Program) (w : World) (K : PySem.W.Frag) (mg : Str → Option Value) (base : Heap) (l : List (Str × Bs × Option Str)) : Prop := ∀ p ∈ l, ∀ f, p.2.2 = some f → f ≠ Str.empty → IniOk P w K mg base p.1 p.2.1 f
theorem ini_nil : IniAll P w K mg base [] := fun p h => by cases h
theorem ini_none {c : Str} {b : Bs} {l : List (Str × Bs × Option Str)} (a : IniAll P w K mg base l) : IniAll P w K mg base ((c, b, none) :: l) := fun p h f e ne => by
  rcases List.mem_cons.mp h with z | z
  · subst z; cases e
  · exact a p z f e ne
theorem ini_some {c f : Str} {b : Bs} {l : List (Str × Bs × Option Str)} (i : IniOk P w K mg base c b f) (a : IniAll P w K mg base l) : IniAll P w K mg base ((c, b, some f) :: l) := fun p h f e ne => by
  rcases List.mem_cons.mp h with z | z
  · subst z; cases e; exact i
  · exact a p z f e ne
theorem ini_name {c : Str} {b : Bs} {l : List (Str × Bs × Option Str)} (a : IniAll P w K mg base l) : IniAll P w K mg base ((c, b, some Str.empty) :: l) := fun p h f e ne => by
  rcases List.mem_cons.mp h with z | z
  · subst z; cases e; exact absurd rfl ne
  · exact a p z f e ne
theorem or_r {b : Bool} {p : Prop} [Decidable p] (h : (decide p || b) = true) (n : ¬p) : b = true := by
  rw [decide_eq_false n] at h
  exact h
theorem kOk_of {h : Heap} {G : Prg} {T : Tab} (X : K.In h) (G0 : h.Ns mainGlobals mg) (c : T.Ok K) (e1 : G.fl = T.flF) (e2 : G.oc = T.ocF) (e3 : G.sub = T.subF) (e4 : G.subB = T.subBF) (e5 : G.xfl = T.xflF) (e6 : G.kt = T.kt) (hi : IniAll P w K mg base T.xs) : KOk P w K mg base G T.clss T.exs 4 where
  fl := fun a f z => by
    rw [e1] at z
    obtain ⟨p, hp, q⟩ := List.any_eq_true.mp z
    have q := of_decide_eq_true q
    subst q
    obtain ⟨z1, z2⟩ := and2 (List.all_eq_true.mp c.fl _ hp)
    exact ⟨He.cls_ok z1, He.noat_ok z2⟩
  cls := fun a ha => by
    obtain ⟨z1, z⟩ := and2 (List.all_eq_true.mp c.clss _ ha)
    obtain ⟨z2, z⟩ := and2 z
    obtain ⟨z3, z⟩ := and2 z
    obtain ⟨z4, z5⟩ := and2 z
    exact ⟨He.glo_ok X G0 z1, He.cls_ok z2, z3, z4, isFB_ok z5⟩
  oc := fun a z => by
    rw [e2] at z
    obtain ⟨p, hp, q⟩ := List.any_eq_true.mp z
    have q := of_decide_eq_true q
    subst q
    exact hp
  ock := fun a b z1 z2 => by
    rw [e2] at z1 z2
    obtain ⟨p, hp, q⟩ := List.any_eq_true.mp z1
    have q := of_decide_eq_true q
    subst q
    obtain ⟨p', hp', q⟩ := List.any_eq_true.mp z2
    have q := of_decide_eq_true q
    subst q
    exact of_decide_eq_true (List.all_eq_true.mp (List.all_eq_true.mp c.ock _ hp) _ hp')
  nms := fun a z => by
    have hm : a ∈ T.clss ++ T.xs.map (·.1) := by
      rcases z with z | ⟨o, z⟩
      · exact List.mem_append_left _ z
      · unfold Tab.exs at z
        obtain ⟨p, hp, e⟩ := List.mem_map.mp z
        cases e
        exact List.mem_append_right _ (List.mem_map_of_mem (f := (·.1)) hp)
    obtain ⟨z1, z2⟩ := and2 (List.all_eq_true.mp c.nms _ hm)
    exact ⟨He.glo_ok X G0 z1, fun hkt n hn => by
      rw [e6] at hkt
      rw [hkt] at z2
      exact of_decide_eq_true (List.all_eq_true.mp z2 n hn)⟩
  exs := fun p hp => by
    unfold Tab.exs at hp
    obtain ⟨⟨a, b, o⟩, hq, e⟩ := List.mem_map.mp hp
    cases e
    obtain ⟨z1, z⟩ := and2 (List.all_eq_true.mp c.xs _ hq)
    cases o with
    | none =>
      obtain ⟨z2, z⟩ := and2 z
      obtain ⟨z3, z⟩ := and2 z
      obtain ⟨z4, z5⟩ := and2 z
      exact ⟨He.glo_ok X G0 z1, z2, of_decide_eq_true z3, of_decide_eq_true z4, b, z5⟩
    | some f =>
      refine ⟨He.glo_ok X G0 z1, fun ne => ?_⟩
      obtain ⟨z2, z⟩ := and2 (or_r z ne)
      obtain ⟨z3, z⟩ := and2 z
      obtain ⟨z4, z5⟩ := and2 z
      obtain ⟨fd, ps, F, hB⟩ := hi _ hq f rfl ne
      exact ⟨b, _, fd, ps, 1, exbB_ok z2, of_decide_eq_true z3, of_decide_eq_true z4, Nat.le_refl _, F, hB⟩
  sub := fun a b r z => by
    rw [e3] at z
    obtain ⟨q, h1, h2⟩ := assoc2_mem z
    obtain ⟨z1, z2⟩ := and2 (List.all_eq_true.mp c.sub _ h1)
    obtain ⟨z3, z4⟩ := and2 (List.all_eq_true.mp z2 _ h2)
    exact ⟨of_decide_eq_true z3, of_decide_eq_true z4, excCB_ok z1⟩
  subB := fun a b r z => by
    rw [e4] at z
    obtain ⟨q, h1, h2⟩ := assoc2_mem z
    obtain ⟨z1, z2⟩ := and2 (List.all_eq_true.mp c.subB _ h1)
    have z3 := List.all_eq_true.mp z2 _ h2
    unfold subB1B at z3
    split at z3
    · rename_i n e
      obtain ⟨z4, z5⟩ := and2 z3
      exact ⟨n, (isBE_ok e).1, of_decide_eq_true z4, z5, excCB_ok z1⟩
    · cases z3
  xfl := fun a f z => by
    rw [e5] at z
    obtain ⟨p, hp, q⟩ := List.any_eq_true.mp z
    have q := of_decide_eq_true q
    subst q
    obtain ⟨z1, z2⟩ := and2 (List.all_eq_true.mp c.xfl _ hp)
    exact ⟨xfB_ok z1, of_decide_eq_true z2⟩
/-- what is read of an exception's __init__ -/
def iniS (body : List Stmt) (scope : Scope) (W f n : Str) : Bool := C8.scC ["self", n] ["self", n] scope && (decide (vInit body = some (W, f, n)) && (decide (scope.names.lookup W = some .globalImplicit) && (okName W && (visB scope "self" && (visB scope n && okName n)))))
theorem iniOk_of {h : Heap} {T : Tab} {fd : FuncData} {x qual : Str} {params : Arguments} {body : List Stmt} {scope : Scope} {dvs : List V} {kws : List (Str × V)} {c W f n : Str} {b : Bs} {a : Addr} (X : K.In h) (G0 : h.Ns mainGlobals mg) (o : T.Ok K) (F : FunD K x qual params body scope dvs kws a fd) (ea : a = He.ma K (He.ga K c) "__init__")
    (ne : f ≠ Str.empty) (hs : iniS body scope W f n = true) (hx : (c, b, some f) ∈ T.xs) (hw : (b, W) ∈ T.inis) (hB : Binds K fd ["self", n] []) : IniOk P w K mg base c b f := by
  subst ea
  obtain ⟨s1, s⟩ := and2 hs
  obtain ⟨s2, s⟩ := and2 s
  obtain ⟨s3, s⟩ := and2 s
  obtain ⟨s4, s⟩ := and2 s
  obtain ⟨s5, s⟩ := and2 s
  obtain ⟨s6, s7⟩ := and2 s
  obtain ⟨z1, z⟩ := and2 (List.all_eq_true.mp o.xs _ hx)
  obtain ⟨z2, z⟩ := and2 (or_r z ne)
  obtain ⟨z3, z⟩ := and2 z
  obtain ⟨z4, z5⟩ := and2 z
  obtain ⟨y1, y2⟩ := and2 (List.all_eq_true.mp o.inis _ hw)
  exact ⟨fd, _, init_ok F s1 (of_decide_eq_true s2) (of_decide_eq_true s3) s4 s5 s6 s7 (He.glo_ok X G0 y1) (iniBB_ok y2) (exbB_ok z2) (of_decide_eq_true z5), hB⟩
theorem cn_ok {h : Heap} {cn : List Cn} (X : K.In h) (G0 : h.Ns mainGlobals mg) (c : cn.all (cnB K) = true) {j : Nat} {x : Str} {d : D} (e : cn[j]? = some (x, d)) : ∃ u v, mg x = some u ∧ RelV v u ∧ ∀ H h, Rep K H h d v := by
  have z := List.all_eq_true.mp c _ (List.mem_of_getElem? e)
  unfold cnB at z
  split at z
  · rename_i u q
    obtain ⟨v, r, p⟩ := dB_ok z
    exact ⟨u, v, PySem.W.mg_of X G0 q, r, p⟩
  · cases z
/-- all arguments by place, none lacks -/
def posShape (n : Nat) : Shape := ⟨n, [], (List.range n).map Src.p⟩
theorem pick_from {us : List V} : ∀ (vs pre : List V), ((List.range' pre.length vs.length).map Src.p).mapM (Src.v (pre ++ vs) us) = some vs
  | [], _ => rfl
  | v :: r, pre => by
    have ih := pick_from (us := us) r (pre ++ [v])
    rw [List.length_append, List.append_assoc] at ih
    rw [List.length_cons, List.range'_succ, List.map_cons, List.mapM_cons]
    have e : Src.v (pre ++ v :: r) us (.p pre.length) = some v := by
      show (pre ++ v :: r)[pre.length]? = some v
      simp
    rw [e]
    have ih : (List.map Src.p (List.range' (pre.length + 1) r.length)).mapM (Src.v (pre ++ v :: r) us) = some r := ih
    rw [ih]; rfl
theorem pick_pos {vs us : List V} {n : Nat} (h : vs.length = n) : pickV ((List.range n).map Src.p) vs us = some vs := by
  subst h
  have := pick_from (us := us) vs []
  rw [List.length_nil, ← List.range_eq_range'] at this
  exact this
theorem ksh_pos {fd : FuncData} {f : Addr} {x qual : Str} {params : Arguments} {body : List Stmt} {scope : Scope} {kws : List (Str × V)} {ps : List Str} {n : Nat} (F : FunD K x qual params body scope [] kws f fd) (hn : ps.length = n)
    (h : ∀ (kV doc pm : Value) (an : Option Addr) (cdv ct : Value) (us : List Value), us.length = ps.length → bindArgs (PySem.W.fnOf x qual params body scope .none kV doc pm an cdv ct) ⟨us, []⟩ = pure (ps.zip us)) : KSh K fd ps (posShape n) := by
  subst hn
  intro s us ws vs es hk l1 l2 rv rw'
  have l1 : us.length = ps.length := l1
  have e : ws = [] := List.eq_nil_of_length_eq_zero l2
  subst e
  exact ⟨vs, us, pick_pos (rv.length.trans l1), rv, l1, F.bindsA h s us l1⟩
/-- the first by place, the others by their defaults -/
theorem pick_dfl {vs us : List V} {cs : List Src} {n : Nat} {zs : List V} (h : vs.length = n) (hc : cs.mapM (Src.v vs us) = some zs) : pickV ((List.range n).map Src.p ++ cs) vs us = some (vs ++ zs) := by
  have e1 : pickV ((List.range n).map Src.p) vs us = some vs := pick_pos h
  unfold pickV at e1 ⊢
  rw [List.mapM_append, e1, hc]
  rfl
theorem ksh_dfl {fd : FuncData} {f : Addr} {x qual : Str} {params : Arguments} {body : List Stmt} {scope : Scope} {dvs : List V} {kws : List (Str × V)} {ps : List Str} {n : Nat} {cs : List Src} (F : FunD K x qual params body scope dvs kws f fd) (j : Nat) (hd : dvs ≠ []) (hn : n + (dvs.length - j) = ps.length)
    (hc : ∀ vs us, cs.mapM (Src.v vs us) = some (dvs.drop j))
    (h : ∀ (T : Addr) (kV doc pm : Value) (an : Option Addr) (cdv ct : Value) (us its : List Value), us.length = n → its.length = dvs.length →
      ∃ k, bindArgs (PySem.W.fnOf x qual params body scope (.ref T) kV doc pm an cdv ct) ⟨us, []⟩ = seqItems? (.ref T) >>= k ∧ k (some its.toArray) = pure (ps.zip (us ++ its.drop j))) : KSh K fd ps ⟨n, [], (List.range n).map Src.p ++ cs⟩ := by
  obtain ⟨ds, rd, hB⟩ := F.binds1 n j hd hn h
  intro s us ws vs es hk l1 l2 rv rw'
  have l1 : us.length = n := l1
  have e : ws = [] := List.eq_nil_of_length_eq_zero l2
  subst e
  have hl : (us ++ ds).length = ps.length := by
    rw [List.length_append, l1, ← hn, ← Paired.length rd, List.length_drop]
  exact ⟨vs ++ dvs.drop j, us ++ ds, pick_dfl ((Paired.length rv).trans l1) (hc vs es), rv.append rd, hl, hB s us hk hl⟩
/-- some by keywords: perm tells where each parameter's value comes from -/
inductive Pl where
  | p (i : Nat) | k (i : Nat)
def Pl.src : Pl → Src
  | .p i => .p i
  | .k i => .k i
def Pl.u {α : Type} (us ws : List α) : Pl → Option α
  | .p i => us[i]?
  | .k i => ws[i]?
def pickU {α : Type} (pl : List Pl) (us ws : List α) : Option (List α) := pl.mapM (Pl.u us ws)
theorem Vals.get2 {vs : List V} {us : List Value} (r : Vals vs us) {i : Nat} {u : Value} (e : us[i]? = some u) : ∃ v, vs[i]? = some v ∧ RelV v u := by
  induction r generalizing i with
  | nil => simp at e
  | cons r rr ih =>
    cases i with
    | zero => simp at e; subst e; exact ⟨_, rfl, r⟩
    | succ i =>
      obtain ⟨v, h1, h2⟩ := ih (i := i) (by simpa using e)
      exact ⟨v, by simpa using h1, h2⟩
theorem pickU_rel {vs es : List V} {us ws : List Value} (rv : Vals vs us) (rw' : Vals es ws) : ∀ {pl : List Pl} {zs : List Value}, pickU pl us ws = some zs → ∃ zv, pickV (pl.map Pl.src) vs es = some zv ∧ Vals zv zs
  | [], zs, e => by cases e; exact ⟨[], rfl, .nil⟩
  | c :: pl, zs, e => by
    unfold pickU at e
    rw [List.mapM_cons] at e
    cases e1 : c.u us ws with
    | none => rw [e1] at e; cases e
    | some u =>
      rw [e1] at e
      cases e2 : pl.mapM (Pl.u us ws) with
      | none => rw [e2] at e; cases e
      | some ys =>
        rw [e2] at e
        cases e
        obtain ⟨zv, q1, q2⟩ := pickU_rel rv rw' (pl := pl) e2
        have : ∃ v, c.src.v vs es = some v ∧ RelV v u := by
          cases c with
          | p i => exact Vals.get2 rv e1
          | k i => exact Vals.get2 rw' e1
        obtain ⟨v, q3, q4⟩ := this
        refine ⟨v :: zv, ?_, .cons q4 q2⟩
        unfold pickV
        rw [List.map_cons, List.mapM_cons, q3]
        have q1 : (pl.map Pl.src).mapM (Src.v vs es) = some zv := q1
        rw [q1]; rfl
theorem ksh_kw {fd : FuncData} {f : Addr} {x qual : Str} {params : Arguments} {body : List Stmt} {scope : Scope} {kws : List (Str × V)} {ps ks : List Str} {n : Nat} {pl : List Pl} (F : FunD K x qual params body scope [] kws f fd) (hn : pl.length = ps.length)
    (h : ∀ (kV doc pm : Value) (an : Option Addr) (cdv ct : Value) (us ws : List Value), us.length = n → ws.length = ks.length → ∃ zs, pickU pl us ws = some zs ∧ zs.length = ps.length ∧ bindArgs (PySem.W.fnOf x qual params body scope .none kV doc pm an cdv ct) ⟨us, ks.zip ws⟩ = pure (ps.zip zs)) : KSh K fd ps ⟨n, ks, pl.map Pl.src⟩ := by
  intro s us ws vs es hk l1 l2 rv rw'
  obtain ⟨oc, od, dV, kV, doc, pm, an, cdv, ct, osl, rfl, lk, hcd, hD, hK⟩ := F.ex
  rcases hD with ⟨_, rfl⟩ | ⟨e, _⟩
  · obtain ⟨zs, e1, e2, e3⟩ := h kV doc pm an cdv ct us ws l1 l2
    obtain ⟨zv, q1, q2⟩ := pickU_rel rv rw' e1
    exact ⟨zv, zs, q1, q2, e2, .of_eq e3⟩
  · exact absurd rfl e
end
/-! ### the end -/
/-- the law's promise: every script of at most n ints -/
def lawS (n : Nat) : Spec := fun ds h Q _ => ∃ is : List Int, ds = [.scr is] ∧ is.length ≤ n ∧ ∀ h', Q (.bl true) h'
theorem walkY {l : PySem.W.OpenLaw} {n k : Nat} {q : Program} {loose : List Str} {XP : (Str → Option Value) → Heap → Prop} {YP : World → Heap → Prop} {d : DefRec} {x : Str} (hn : l.most = some n) (hn2 : n ≤ sizeLine) (hdf : d.params.defaults = []) (hr : Room k callerA)
    (F : ∀ (w : World) (mg : Str → Option Value) (fa : Addr) (h : Heap), YP w h → h.Ns mainGlobals mg → mg d.name = some (.ref fa) →
      ∃ (K : PySem.W.Frag) (fd : FuncData), K.In h ∧ (∀ (s : Shared) (u : Value), BindsTo s fd ⟨[u], []⟩ [(x, u)]) ∧
        ∀ base : Heap, K.In base → base.Ns mainGlobals mg → FnOk l.prog w K mg base (L2.CX l.prog w) k fa fd [x] (toSp K 1 (lawS n))) :
    PySem.W.WalkO q loose XP YP l.row.toRowW d [] (fun f vs => PySem.call f vs) := by
  refine Att.attach_call hn hdf ?_
  intro w s₀ s₁ mg mb fa o pm cd doc a vs ns G Y ho hd hcd hmg hobj hints hlen hg
  obtain ⟨K, fd, KX, hb, hF⟩ := F w mg fa _ Y G.T.g hmg
  refine law_call KX G.T.g G.T.b G.T.builtins G.T.nolimit hg hobj hints (Nat.le_trans hlen hn2) hr hF hb (fun H _ hS => ?_) ?_
  · refine ⟨[.scr ns], fun _ => none, fun d _ => d = .bl true, fun _ _ => False, rfl, .cons (.scr ?_) .nil, fun a d e => (by cases e), ⟨ns, rfl, hlen, fun _ => rfl⟩, fun d h v H f hr r q => ?_, fun _ _ _ _ _ _ _ _ q => q.elim⟩
    · rcases hS with z | z
      · exact .inl ⟨z, rfl⟩
      · exact .inr z
    · subst q; cases r; rfl
  · rintro H e s' ⟨_, _, _, _, _, _, _, _, _, _, _, _, z⟩
    exact z.elim
end Y
namespace Y
open PySem (Addr sizeLine Str)

/-! ### rules for loops, in plain data -/
theorem loopF_rule {α : Type} {t : D → DEnv → Hd → (DEnv → Hd → Prop) → QX → Prop} {b : TDS} {N : EndsD} {X : QXe} {enc : α → D} {l : List α} (P : List α → DEnv → Hd → Prop)
    (done : ∀ ρ h, P l ρ h → N.nx ρ h)
    (step : ∀ (pre : List α) (a : α) (suf : List α) (ρ : DEnv) (h : Hd) (K : DEnv → Hd → Prop), l = pre ++ a :: suf → P pre ρ h → (∀ ρ' h', P (pre ++ [a]) ρ' h' → K ρ' h') →
      t (enc a) ρ h (fun ρ1 h1 => b ρ1 h1 { nx := K, rt := N.rt, bk := N.nx, ct := K } X) (fun _ _ => False)) {ρ : DEnv} {h : Hd} (h0 : P [] ρ h) : loopF t b N X (l.map enc) ρ h := by
  have go : ∀ (suf pre : List α) (ρ : DEnv) (h : Hd), l = pre ++ suf → P pre ρ h → loopF t b N X (suf.map enc) ρ h := by
    intro suf
    induction suf with
    | nil =>
      intro pre ρ h e p
      rw [List.append_nil] at e
      subst e
      exact done ρ h p
    | cons a suf ih =>
      intro pre ρ h e p
      exact step pre a suf ρ h _ e p fun ρ' h' p' => ih (pre ++ [a]) ρ' h' (by rw [List.append_assoc]; exact e) p'
  exact go l [] ρ h rfl h0
/-- a loop whose turns keep P, whatever the item -/
theorem loopF_keep {α : Type} {t : D → DEnv → Hd → (DEnv → Hd → Prop) → QX → Prop} {b : TDS} {N : EndsD} {X : QXe} {enc : α → D} {l : List α} (P : DEnv → Hd → Prop)
    (done : ∀ ρ h, P ρ h → N.nx ρ h)
    (step : ∀ (a : α) (ρ : DEnv) (h : Hd) (K : DEnv → Hd → Prop), a ∈ l → P ρ h → (∀ ρ' h', P ρ' h' → K ρ' h') →
      t (enc a) ρ h (fun ρ1 h1 => b ρ1 h1 { nx := K, rt := N.rt, bk := N.nx, ct := K } X) (fun _ _ => False)) {ρ : DEnv} {h : Hd} (h0 : P ρ h) : loopF t b N X (l.map enc) ρ h :=
  loopF_rule (fun _ ρ h => P ρ h) done (fun pre a suf ρ h K e p k => step a ρ h K (by rw [e]; simp) p k) h0
theorem loopC_rule {α : Type} {t : D → DEnv → Hd → (DEnv → Hd → Prop) → QX → Prop} {c : DEnv → Hd → (Bool → Hd → Prop) → QX → Prop} {e : TD} {ρ : DEnv} {Q : List D → Hd → Prop} {enc : α → D} {l : List α} (P : List α → List D → Hd → Prop)
    (done : ∀ acc h, P l acc h → Q acc h)
    (step : ∀ (pre : List α) (a : α) (suf : List α) (acc : List D) (h : Hd) (K : List D → Hd → Prop), l = pre ++ a :: suf → P pre acc h → (∀ acc' h', P (pre ++ [a]) acc' h' → K acc' h') →
      t (enc a) ρ h (fun ρ1 h1 => c ρ1 h1 (fun b h2 => if b = true then e ρ1 h2 (fun y h3 => acc.length < sizeLine ∧ K (acc ++ [y]) h3) (fun _ _ => False) else K acc h2) (fun _ _ => False)) (fun _ _ => False)) {h : Hd} (h0 : P [] [] h) : loopC t c e ρ Q (l.map enc) [] h := by
  have go : ∀ (suf pre : List α) (acc : List D) (h : Hd), l = pre ++ suf → P pre acc h → loopC t c e ρ Q (suf.map enc) acc h := by
    intro suf
    induction suf with
    | nil =>
      intro pre acc h e p
      rw [List.append_nil] at e
      subst e
      exact done acc h p
    | cons a suf ih =>
      intro pre acc h e p
      exact step pre a suf acc h _ e p fun acc' h' p' => ih (pre ++ [a]) acc' h' (by rw [List.append_assoc]; exact e) p'
  exact go l [] [] h rfl h0
/-- [f(a) for a in l], nothing changed -/
theorem loopC_map {α : Type} {t : D → DEnv → Hd → (DEnv → Hd → Prop) → QX → Prop} {e : TD} {ρ : DEnv} {Q : List D → Hd → Prop} {enc : α → D} {l : List α} {h : Hd} (f : α → D) (hl : l.length ≤ sizeLine)
    (step : ∀ a ∈ l, ∀ K : D → Hd → Prop, K (f a) h → t (enc a) ρ h (fun ρ1 h1 => e ρ1 h1 K (fun _ _ => False)) (fun _ _ => False)) (q : Q (l.map f) h) : loopC t (fun _ h Q _ => Q true h) e ρ Q (l.map enc) [] h := by
  refine loopC_rule (fun pre acc h' => acc = pre.map f ∧ h' = h) (fun acc h' p => by rw [p.1, p.2]; exact q) (fun pre a suf acc h' K e1 p k => ?_) ⟨rfl, rfl⟩
  obtain ⟨rfl, rfl⟩ := p
  have s := step a (by rw [e1]; simp) (fun y h3 => (pre.map f).length < sizeLine ∧ K (pre.map f ++ [y]) h3) ⟨by
    have : l.length = pre.length + (suf.length + 1) := by rw [e1]; simp
    rw [List.length_map]; omega, k _ _ ⟨by simp, rfl⟩⟩
  exact s
/-- [f(a) for a in l if p(a)], nothing changed -/
theorem loopC_filter {α : Type} {t : D → DEnv → Hd → (DEnv → Hd → Prop) → QX → Prop} {c : DEnv → Hd → (Bool → Hd → Prop) → QX → Prop} {e : TD} {ρ : DEnv} {Q : List D → Hd → Prop} {enc : α → D} {l : List α} {h : Hd} (f : α → D) (p : α → Bool) (hl : l.length ≤ sizeLine)
    (step : ∀ a ∈ l, ∀ (K : D → Hd → Prop) (Z : Hd → Prop), (p a = true → K (f a) h) → (p a = false → Z h) → t (enc a) ρ h (fun ρ1 h1 => c ρ1 h1 (fun b h2 => if b = true then e ρ1 h2 K (fun _ _ => False) else Z h2) (fun _ _ => False)) (fun _ _ => False)) (q : Q ((l.filter p).map f) h) : loopC t c e ρ Q (l.map enc) [] h := by
  refine loopC_rule (fun pre acc h' => acc = (pre.filter p).map f ∧ h' = h) (fun acc h' p => by rw [p.1, p.2]; exact q) (fun pre a suf acc h' K e1 p' k => ?_) ⟨rfl, rfl⟩
  obtain ⟨rfl, rfl⟩ := p'
  refine step a (by rw [e1]; simp) (fun y h3 => ((pre.filter p).map f).length < sizeLine ∧ K ((pre.filter p).map f ++ [y]) h3) (fun h2 => K ((pre.filter p).map f) h2) (fun pa => ⟨?_, k _ _ ⟨by simp [pa], rfl⟩⟩) (fun pa => k _ _ ⟨by simp [pa], rfl⟩)
  have : l.length = pre.length + (suf.length + 1) := by rw [e1]; simp
  have := List.length_filter_le p pre
  rw [List.length_map]; omega
theorem loopW_rule {c : DEnv → Hd → (Bool → Hd → Prop) → QX → Prop} {b : TDS} {ρ : DEnv} {h : Hd} {N : EndsD} {X : QXe} (W : Nat → DEnv → Hd → Prop) {m : Nat} (h0 : W m ρ h)
    (step : ∀ m ρ h (K : DEnv → Hd → Prop), W m ρ h → (∀ m' ρ' h', m' < m → W m' ρ' h' → K ρ' h') → c ρ h (fun k h1 => if k = true then b ρ h1 { nx := K, rt := N.rt, bk := N.nx, ct := K } X else N.nx ρ h1) (X ρ)) : loopW c b ρ h N X :=
  ⟨W, ⟨m, h0⟩, fun m ρ h w => step m ρ h _ w fun m' ρ' h' l w' => ⟨m', l, w'⟩⟩
/-! ### small facts -/
theorem hupd_get {h : Hd} {a b : Addr} {d : D} : hupd h a d b = if b = a then some d else h b := rfl
theorem fresh_ne {h : Hd} {a D' : Addr} {d : D} (e : h a = some d) (n : h D' = none) : a ≠ D' := fun z => by rw [z, n] at e; cases e
theorem shOf_ok {L : List (List Shape)} {f s : Nat} {i : FnI} {sh : Shape} (e : L[f]? = some i.shapes) (h : i.shapes[s]? = some sh) : ((L[f]?).bind fun l => l[s]?).getD ⟨0, [], []⟩ = sh := by
  rw [e]
  show (i.shapes[s]?).getD _ = sh
  rw [h]; rfl
end Y
namespace Y
open PySem (Addr sizeLine Str PyData)
/-! ### lists of ints: ==, in -/
theorem toPys_ints : ∀ is : List Int, toPys (is.map D.int) = some (is.map PyData.int)
  | [] => rfl
  | i :: is => by rw [List.map_cons, toPys, toPys_ints is]; rfl
theorem canLay_ints : ∀ is : List Int, PySem.PyData.canLayAll0 (is.map PyData.int) = true
  | [] => rfl
  | i :: is => by rw [List.map_cons, PySem.PyData.canLayAll0, canLay_ints is]; rfl
theorem depth_ints : ∀ is : List Int, PySem.PyData.depthAll (is.map PyData.int) = 0
  | [] => rfl
  | i :: is => by rw [List.map_cons, PySem.PyData.depthAll, depth_ints is]; rfl
theorem eqv_ints : ∀ is js : List Int, PySem.PyData.eqvAll (is.map PyData.int) (js.map PyData.int) = decide (is = js)
  | [], [] => rfl
  | [], _ :: _ => rfl
  | _ :: _, [] => rfl
  | i :: is, j :: js => by
    rw [List.map_cons, List.map_cons, PySem.PyData.eqvAll, eqv_ints is js]
    show ((i == j) && decide (is = js)) = _
    by_cases e1 : i = j <;> by_cases e2 : is = js <;> simp [e1, e2]
theorem shaped_tupI (is : List Int) : PySem.SeqAt.shaped (.tuple (is.map PyData.int)) = true := by
  unfold PySem.SeqAt.shaped
  rw [show PySem.PyData.canLay0 (.tuple (is.map PyData.int)) = true from by rw [PySem.PyData.canLay0]; exact canLay_ints is, show PySem.PyData.depth (.tuple (is.map PyData.int)) = 1 from by rw [PySem.PyData.depth, depth_ints]]
  rfl
theorem shaped_lstI (is : List Int) : PySem.SeqAt.shaped (.list (is.map PyData.int)) = true := by
  unfold PySem.SeqAt.shaped
  rw [show PySem.PyData.canLay0 (.list (is.map PyData.int)) = true from by rw [PySem.PyData.canLay0]; exact canLay_ints is, show PySem.PyData.depth (.list (is.map PyData.int)) = 1 from by rw [PySem.PyData.depth, depth_ints]]
  rfl
theorem eqQ_tupI {is js : List Int} {h : Hd} {Q : Bool → Prop} (q : Q (decide (is = js))) : eqQ (.tup (is.map D.int)) (.tup (js.map D.int)) h Q := by
  show deepEq h _ _ Q
  unfold deepEq
  rw [show toPy (deref h (.tup (is.map D.int))) = some (.tuple (is.map PyData.int)) from by show toPy (.tup _) = _; rw [toPy, toPys_ints], show toPy (deref h (.tup (js.map D.int))) = some (.tuple (js.map PyData.int)) from by show toPy (.tup _) = _; rw [toPy, toPys_ints]]
  refine ⟨shaped_tupI is, shaped_tupI js, ?_⟩
  rw [PySem.PyData.eqv, eqv_ints]
  exact q
theorem eqQ_lstI {is js : List Int} {h : Hd} {Q : Bool → Prop} (q : Q (decide (is = js))) : eqQ (.lst (is.map D.int)) (.lst (js.map D.int)) h Q := by
  show deepEq h _ _ Q
  unfold deepEq
  rw [show toPy (deref h (.lst (is.map D.int))) = some (.list (is.map PyData.int)) from by show toPy (.lst _) = _; rw [toPy, toPys_ints], show toPy (deref h (.lst (js.map D.int))) = some (.list (js.map PyData.int)) from by show toPy (.lst _) = _; rw [toPy, toPys_ints]]
  refine ⟨shaped_lstI is, shaped_lstI js, ?_⟩
  rw [PySem.PyData.eqv, eqv_ints]
  exact q
theorem flat_ints : ∀ is : List Int, (is.map D.int).all flatD = true
  | [] => rfl
  | i :: is => by rw [List.map_cons, List.all_cons, flat_ints is]; rfl
theorem inD_ints (i : Int) : ∀ is : List Int, inD (.int i) (is.map D.int) = decide (i ∈ is)
  | [] => rfl
  | j :: is => by
    have ih := inD_ints i is
    unfold inD at ih ⊢
    rw [List.map_cons, List.any_cons, ih]
    show ((j == i) || decide (i ∈ is)) = _
    by_cases e : j = i
    · subst e; simp
    · have e' : ¬ i = j := fun z => e z.symm
      simp [e, e']
end Y
namespace Y
open PySem (sizeLine Str)
open L2 (atI ixN)
theorem ite_t {b : Bool} {P Q : Prop} (h : b = true) (p : P) : if b = true then P else Q := by rw [if_pos h]; exact p
theorem ite_f {b : Bool} {P Q : Prop} (h : b = false) (p : Q) : if b = true then P else Q := by rw [if_neg (by rw [h]; exact Bool.false_ne_true)]; exact p
theorem ite_b {b : Bool} {P Q : Prop} (p : b = true → P) (q : b = false → Q) : if b = true then P else Q := by
  cases b
  · rw [if_neg Bool.false_ne_true]; exact q rfl
  · rw [if_pos rfl]; exact p rfl
theorem seqA_ref {h : Hd} {a : PySem.Addr} {l : List D} (e : h a = some (.lst l)) : seqA h (.ref a) = some l := by unfold seqA seqL; dsimp only; rw [e]
theorem atI_0 {α : Type} (x : α) (xs : List α) : atI (x :: xs) 0 = some x := by
  unfold atI ixN
  rw [if_pos (by decide), if_pos (by simp)]; rfl
theorem atI_1 {α : Type} (x y : α) (xs : List α) : atI (x :: y :: xs) 1 = some y := by
  unfold atI ixN
  rw [if_pos (by decide), if_pos (by simp; omega)]; rfl
theorem blsOf_fun {α : Type} {f : α → Bool} : ∀ l : List α, blsOf (l.map fun a => D.bl (f a)) = some (l.map f)
  | [] => rfl
  | a :: l => by rw [List.map_cons, blsOf, blsOf_fun l]; rfl
theorem len_ok {n : Nat} (h : n ≤ 64) : n ≤ sizeLine := Nat.le_trans h (by decide)
theorem cutD_map {α β : Type} (f : α → β) (l : List α) (lo hi : Option Int) : cutD (l.map f) lo hi = (cutD l lo hi).map f := by
  unfold cutD
  rw [List.length_map, ← List.map_drop, ← List.map_take]
theorem hupd_comm {h : Hd} {a b : PySem.Addr} {x y : D} (e : a ≠ b) : hupd (hupd h a x) b y = hupd (hupd h b y) a x := by
  funext c
  unfold hupd
  by_cases h1 : c = a
  · subst h1; rw [if_neg e, if_pos rfl, if_pos rfl]
  · by_cases h2 : c = b
    · subst h2; rw [if_pos rfl, if_neg h1, if_pos rfl]
    · simp only [if_neg h1, if_neg h2]
theorem hupd_other {h : Hd} {a b : PySem.Addr} {d : D} (e : b ≠ a) : hupd h a d b = h b := if_neg e
theorem hupd_id {h : Hd} {a : PySem.Addr} {d : D} (e : h a = some d) : hupd h a d = h := by
  funext c
  unfold hupd
  by_cases h1 : c = a
  · subst h1; rw [if_pos rfl, e]
  · rw [if_neg h1]
theorem mulX {i j : Int} (h1 : i.natAbs < 2 ^ 4000) (h2 : j.natAbs < 2 ^ 4000) : MulOk i j := by
  refine .inr ?_
  have b : ∀ x : Int, x.natAbs < 2 ^ 4000 → PySem.Builtin.Int.intBits x ≤ 4001 := fun x hx => by
    unfold PySem.Builtin.Int.intBits
    split
    · omega
    · rename_i hz
      have hz : x ≠ 0 := by simpa using hz
      have := (Nat.log2_lt (n := x.natAbs) (k := 4000) (by omega)).mpr hx
      omega
  have := b i h1
  have := b j h2
  show (PySem.Builtin.Int.intBits i : Int) + (PySem.Builtin.Int.intBits j : Int) ≤ 134217728
  omega
theorem mulR64 {i j : Int} (h1 : -(2 ^ 64) < j) (h2 : j < 2 ^ 64) : MulOk i j := .inl (.inr ⟨h1, h2⟩)
theorem mulL64 {i j : Int} (h1 : -(2 ^ 64) < i) (h2 : i < 2 ^ 64) : MulOk i j := .inl (.inl ⟨h1, h2⟩)
theorem atI_nat {α : Type} {xs : List α} {i : Nat} {x : α} (h : xs[i]? = some x) : atI xs (i : Int) = some x := by
  have hi : i < xs.length := by
    rw [List.getElem?_eq_some_iff] at h
    exact h.1
  unfold atI ixN
  rw [if_pos (by omega), if_pos (by omega)]
  simpa using h
theorem log_lt {n : Nat} (h1 : 0 < n) (h2 : n < 2 ^ 64) : DivOk (n : Int) := by
  refine ⟨by omega, ?_⟩
  rw [Int.natAbs_natCast]
  have : Nat.log2 n < 64 := (Nat.log2_lt (by omega)).mpr h2
  omega
/-! ### comprehensions, loops step by step -/
section
variable {t : D → DEnv → Hd → (DEnv → Hd → Prop) → QX → Prop} {c : DEnv → Hd → (Bool → Hd → Prop) → QX → Prop} {e : TD} {ρ : DEnv} {Q : List D → Hd → Prop} {d : D} {ds acc : List D} {h : Hd} {b : TDS} {N : EndsD} {X : QXe}
theorem loopC_n (q : Q acc h) : loopC t c e ρ Q [] acc h := q
theorem loopC_c (q : t d ρ h (fun ρ1 h1 => c ρ1 h1 (fun b h2 => if b = true then e ρ1 h2 (fun y h3 => acc.length < sizeLine ∧ loopC t c e ρ Q ds (acc ++ [y]) h3) (fun _ _ => False) else loopC t c e ρ Q ds acc h2) (fun _ _ => False)) (fun _ _ => False)) : loopC t c e ρ Q (d :: ds) acc h := q
theorem loopF_n (q : N.nx ρ h) : loopF t b N X [] ρ h := q
theorem loopF_c (q : t d ρ h (fun ρ1 h1 => b ρ1 h1 { nx := loopF t b N X ds, rt := N.rt, bk := N.nx, ct := loopF t b N X ds } X) (fun _ _ => False)) : loopF t b N X (d :: ds) ρ h := q
end
/-! ### what is left as it was -/
def Ext (h h' : Hd) : Prop := ∀ a d, h a = some d → h' a = some d
theorem Ext.refl {h : Hd} : Ext h h := fun _ _ e => e
theorem Ext.trans {h h1 h2 : Hd} (p : Ext h h1) (q : Ext h1 h2) : Ext h h2 := fun a d e => q a d (p a d e)
theorem Ext.new {h : Hd} {a : PySem.Addr} {d : D} (n : h a = none) : Ext h (hupd h a d) := fun b x e => by
  unfold hupd
  by_cases q : b = a
  · subst q; rw [n] at e; cases e
  · rw [if_neg q]; exact e
theorem Ext.ne {h : Hd} {a b : PySem.Addr} {d : D} (e : h a = some d) (n : h b = none) : a ≠ b := fun z => by rw [z, n] at e; cases e
/-- up to what stands at a -/
def ExtB (a : PySem.Addr) (h h' : Hd) : Prop := ∀ b d, b ≠ a → h b = some d → h' b = some d
theorem ExtB.refl {a : PySem.Addr} {h : Hd} : ExtB a h h := fun _ _ _ e => e
theorem ExtB.trans {a : PySem.Addr} {h h1 h2 : Hd} (p : ExtB a h h1) (q : ExtB a h1 h2) : ExtB a h h2 := fun b d n e => q b d n (p b d n e)
theorem ExtB.of {a : PySem.Addr} {h h' : Hd} (p : Ext h h') : ExtB a h h' := fun b d _ e => p b d e
theorem ExtB.upd {a : PySem.Addr} {h : Hd} {d : D} : ExtB a h (hupd h a d) := fun b x n e => by rw [hupd_other n]; exact e
/-! ### texts -/
theorem cutS_len {z : Str} {lo hi : Option Int} : (L2.cutS z lo hi).length ≤ z.length := by
  unfold L2.cutS
  show (List.toArray _).size ≤ z.cps.size
  simp
  omega
theorem app_len {a b : Str} : (a ++ b).length = a.length + b.length := by
  show (a.cps ++ b.cps).size = a.cps.size + b.cps.size
  simp
end Y
namespace Y
theorem not_t {b : Bool} (h : (!b) = true) : b = false := by cases b <;> simp_all
theorem not_f {b : Bool} (h : (!b) = false) : b = true := by cases b <;> simp_all
end Y
namespace Y
theorem nat_ok {m n : Nat} {P : Prop} (h : m = n) (p : P) : m = n ∧ P := ⟨h, p⟩
end Y
namespace Y
theorem seq_c {G : Prg} {s : S} {r : Ss} {ρ : DEnv} {h : Hd} {N : EndsD} {X : QXe} (p : ∀ K : DEnv → Hd → Prop, (∀ ρ1 h1, wpSs G r ρ1 h1 N X → K ρ1 h1) → wpS G s ρ h { nx := K, rt := N.rt, bk := N.bk, ct := N.ct } X) : wpSs G (.cons s r) ρ h N X := p _ fun _ _ q => q
end Y
namespace Y
theorem deepEq_ok {h : Hd} {x y : D} {Q : Bool → Prop} {p q : PySem.PyData} {b : Bool} (e1 : toPy (deref h x) = some p) (e2 : toPy (deref h y) = some q) (s1 : PySem.SeqAt.shaped p = true) (s2 : PySem.SeqAt.shaped q = true) (e : PySem.PyData.eqv p q = b) (k : Q b) : deepEq h x y Q := by
  unfold deepEq
  rw [e1, e2]
  exact ⟨s1, s2, e ▸ k⟩
end Y
namespace Y
def deqB (h : Hd) (x y : D) : Option Bool := match toPy (deref h x), toPy (deref h y) with
  | some p, some q => if PySem.SeqAt.shaped p && PySem.SeqAt.shaped q then some (PySem.PyData.eqv p q) else none
  | _, _ => none
theorem deepEq_b {h : Hd} {x y : D} {Q : Bool → Prop} {b : Bool} (e : deqB h x y = some b) (k : Q b) : deepEq h x y Q := by
  unfold deqB at e
  unfold deepEq
  split at e
  · rename_i p q e1 e2
    split at e
    · rename_i s
      cases e
      obtain ⟨s1, s2⟩ := and2 s
      first
        | exact ⟨s1, s2, k⟩
        | (rw [e1, e2]; exact ⟨s1, s2, k⟩)
    · cases e
  · cases e
end Y
namespace Y
theorem len_k {n : Nat} {P : Prop} (h : Nat.ble n PySem.sizeLine = true) (p : P) : n ≤ PySem.sizeLine ∧ P := ⟨Nat.le_of_ble_eq_true h, p⟩
end Y
namespace Y
theorem and_str {x : PySem.Str} {P : Prop} (p : P) : (∃ z, D.str x = D.str z) ∧ P := ⟨⟨_, rfl⟩, p⟩
end Y
namespace Y
theorem loopF_mem {t : D → DEnv → Hd → (DEnv → Hd → Prop) → QX → Prop} {b : TDS} {N : EndsD} {X : QXe} {l : List D} (P : DEnv → Hd → Prop)
    (done : ∀ ρ h, P ρ h → N.nx ρ h)
    (step : ∀ (a : D) (ρ : DEnv) (h : Hd) (K : DEnv → Hd → Prop), a ∈ l → P ρ h → (∀ ρ' h', P ρ' h' → K ρ' h') →
      t a ρ h (fun ρ1 h1 => b ρ1 h1 { nx := K, rt := N.rt, bk := N.nx, ct := K } X) (fun _ _ => False)) {ρ : DEnv} {h : Hd} (h0 : P ρ h) : loopF t b N X l ρ h := by
  have := loopF_keep (enc := fun d : D => d) (l := l) P done step h0
  simpa using this
end Y
namespace Y
theorem le_and {m n : Nat} {P : Prop} (h : m ≤ n) (p : P) : m ≤ n ∧ P := ⟨h, p⟩
end Y
namespace Y
theorem seqL_at {h : Hd} {a : PySem.Addr} {l : List D} (e : h a = some (.lst l)) : seqL h (.ref a) = some l := by unfold seqL; dsimp only; rw [e]
end Y
namespace K01
open PySem PySem.Spec PyProof.Rows L2 Y
abbrev R : PySem.W.OpenRow := PySem.W.OpenLaw.row PySem.Challenge.rw_willdealt_k01_names_of_any_kind
def top (i : Nat) : Stmt := R.prog.main.body.getD i (.Pass ⟨0, 0, 0, 0⟩)
def cns : List Str := ["MOST_LETTERS", "WORDS", "LETTERS", "MOST_AMOUNT", "MOST_SHARES", "MOST_DEATHS", "MOST_DAY", "MOST_PEOPLE", "MOST_GOODS", "MOST_SUM"]
def free : List Str := ["ArithmeticError", "LookupError", "ValueError", "abs", "all", "any", "bool", "divmod", "enumerate", "int", "isinstance", "len", "max", "min", "range", "str", "sum", "tuple"]
def cnD : List Cn := [("MOST_LETTERS", .int 8), ("WORDS", .tup [.str "all", .str "and", .str "children", .str "childless", .str "crown", .str "else", .str "if", .str "lives", .str "not", .str "of", .str "or", .str "stock", .str "to"]), ("LETTERS", .str "abcdefghijklmnopqrstuvwxyz"), ("MOST_AMOUNT", .int 1000000000000), ("MOST_SHARES", .int 64), ("MOST_DEATHS", .int 8), ("MOST_DAY", .int 9999), ("MOST_PEOPLE", .int 8), ("MOST_GOODS", .int 8), ("MOST_SUM", .int 1000000000)]
def tb : Tab where
  cns := cnD
  clss := ["Story", "House"]
  xs := [("WordError", .v, none), ("NoSum", .v, some "thing"), ("NoShares", .v, none), ("NoStory", .v, some "number"), ("NoPeople", .v, some "number"), ("NoGoods", .v, some "number"), ("NoName", .v, some Str.empty), ("NoText", .v, some Str.empty), ("NoCond", .v, none), ("NoDay", .v, some Str.empty), ("NoReading", .v, some Str.empty), ("NoClause", .v, some Str.empty), ("NoWhom", .v, none), ("DayStands", .v, some Str.empty), ("LabelStands", .v, some Str.empty), ("NoWord", .v, some Str.empty), ("NoThing", .l, some Str.empty), ("NoPerson", .l, some Str.empty), ("NoRow", .v, none), ("TooMany", .a, some Str.empty), ("NoUndo", .l, none), ("NoLabel", .l, some Str.empty), ("RoomError", .a, none), ("LostError", .l, none)]
  inis := [(.v, "WordError")]
  fl := [("House", "debts"), ("House", "folk"), ("House", "purse"), ("House", "wares"), ("Story", "deaths")]
  sub := [("NoSum", [("WordError", true), ("NoShares", false), ("NoSum", true), ("NoName", false), ("NoText", false), ("NoGoods", false), ("NoPeople", false), ("NoCond", false), ("NoDay", false), ("NoStory", false), ("NoReading", false), ("NoClause", false), ("NoWhom", false), ("DayStands", false), ("LabelStands", false), ("NoWord", false), ("NoThing", false), ("NoPerson", false), ("NoRow", false), ("TooMany", false), ("NoUndo", false), ("NoLabel", false), ("RoomError", false), ("LostError", false)]), ("NoShares", [("WordError", true), ("NoShares", true), ("NoSum", false), ("NoName", false), ("NoText", false), ("NoGoods", false), ("NoPeople", false), ("NoCond", false), ("NoDay", false), ("NoStory", false), ("NoReading", false), ("NoClause", false), ("NoWhom", false), ("DayStands", false), ("LabelStands", false), ("NoWord", false), ("NoThing", false), ("NoPerson", false), ("NoRow", false), ("TooMany", false), ("NoUndo", false), ("NoLabel", false), ("RoomError", false), ("LostError", false)]), ("NoStory", [("WordError", true), ("NoShares", false), ("NoSum", false), ("NoName", false), ("NoText", false), ("NoGoods", false), ("NoPeople", false), ("NoCond", false), ("NoDay", false), ("NoStory", true), ("NoReading", false), ("NoClause", false), ("NoWhom", false), ("DayStands", false), ("LabelStands", false), ("NoWord", false), ("NoThing", false), ("NoPerson", false), ("NoRow", false), ("TooMany", false), ("NoUndo", false), ("NoLabel", false), ("RoomError", false), ("LostError", false)]), ("NoPeople", [("WordError", true), ("NoShares", false), ("NoSum", false), ("NoName", false), ("NoText", false), ("NoGoods", false), ("NoPeople", true), ("NoCond", false), ("NoDay", false), ("NoStory", false), ("NoReading", false), ("NoClause", false), ("NoWhom", false), ("DayStands", false), ("LabelStands", false), ("NoWord", false), ("NoThing", false), ("NoPerson", false), ("NoRow", false), ("TooMany", false), ("NoUndo", false), ("NoLabel", false), ("RoomError", false), ("LostError", false)]), ("NoGoods", [("WordError", true), ("NoShares", false), ("NoSum", false), ("NoName", false), ("NoText", false), ("NoGoods", true), ("NoPeople", false), ("NoCond", false), ("NoDay", false), ("NoStory", false), ("NoReading", false), ("NoClause", false), ("NoWhom", false), ("DayStands", false), ("LabelStands", false), ("NoWord", false), ("NoThing", false), ("NoPerson", false), ("NoRow", false), ("TooMany", false), ("NoUndo", false), ("NoLabel", false), ("RoomError", false), ("LostError", false)])]
  subB := [("NoSum", [("ArithmeticError", false), ("LookupError", false), ("ValueError", true)]), ("NoShares", [("ArithmeticError", false), ("LookupError", false), ("ValueError", true)]), ("NoStory", [("ArithmeticError", false), ("LookupError", false), ("ValueError", true)]), ("NoPeople", [("ArithmeticError", false), ("LookupError", false), ("ValueError", true)]), ("NoGoods", [("ArithmeticError", false), ("LookupError", false), ("ValueError", true)])]
  xfl := [("NoSum", "thing"), ("NoStory", "number"), ("NoPeople", "number"), ("NoGoods", "number")]
  kt := false
def T0 : List (Nat × FnI) := []
abbrev cx (N : List Str) (sc : Scope) (T : List (Nat × FnI)) : Y.Ctx := ⟨N, sc, fun _ => true, T, cns, free, tb.clss, tb.exs⟩
def i__law_pool : FnI := ⟨"_law_pool", ["script", "k"], [⟨2, [], [.p 0, .p 1]⟩], none⟩
def T1 : List (Nat × FnI) := (200, i__law_pool) :: T0
@[reducible] def N__law_pool : List Str := ["script", "k", "cell", "more", "found", "turn"]
@[reducible] def b__law_pool : Ss := (.cons (.asg (.nm 2) (.bif .sum (.cons (.slc (.loc 0) (.loc 1) (.op .add (.loc 1) (.int 1))) .nil))) (.cons (.ifS (.orE (.cmp .Lt (.loc 2) (.int 0)) (.cmp .GtE (.loc 2) (.op .pow (.int 10) (.int 18)))) (.cons (.ret (.lst true (.cons (.op .mod (.bif .abs (.cons (.loc 2) .nil)) (.op .mul (.op .mul (.op .mul (.op .mul (.op .mul (.op .pow (.int 10) (.int 64)) (.op .pow (.int 10) (.int 64))) (.op .pow (.int 10) (.int 64))) (.op .pow (.int 10) (.int 64))) (.op .pow (.int 10) (.int 64))) (.op .pow (.int 10) (.int 64)))) .nil))) .nil) .nil) (.cons (.asg (.nm 3) (.op .add (.op .add (.op .mul (.loc 2) (.int 48271)) (.op .mul (.op .mul (.int 977) (.loc 1)) (.loc 1))) (.int 13))) (.cons (.asg (.nm 4) (.int 0)) (.cons (.forS (.nm 5) (.rg1 (.int 27)) (.cons (.asg (.nm 3) (.op .mod (.op .add (.op .add (.op .mul (.op .mod (.loc 3) (.int 999999999989)) (.int 69621)) (.op .mul (.int 40503) (.loc 5))) (.int 271)) (.int 999999999989))) (.cons (.asg (.nm 4) (.op .add (.op .mul (.loc 4) (.op .pow (.int 10) (.int 11))) (.op .mod (.op .mul (.loc 3) (.op .add (.op .mod (.loc 3) (.int 65537)) (.int 3))) (.int 99999999977)))) .nil))) (.cons (.ret (.lst true (.cons (.loc 4) .nil))) .nil))))))
theorem m__law_pool : mSs (cx N__law_pool (defScope (top 63)) T0) b__law_pool (defBody (top 63)) = true := by kernel_rfl
theorem s__law_pool : C8.scC N__law_pool i__law_pool.ps (defScope (top 63)) = true := by kernel_rfl
def i__law_take : FnI := ⟨"_law_take", ["pool", "many"], [⟨2, [], [.p 0, .p 1]⟩], none⟩
def T2 : List (Nat × FnI) := (201, i__law_take) :: T1
@[reducible] def N__law_take : List Str := ["pool", "many", "digit"]
@[reducible] def b__law_take : Ss := (.cons (.asg (.tp (.cons (.sb (.loc 0) (.int 0)) (.cons (.nm 2) .nil))) (.bif .divmod (.cons (.ix (.loc 0) (.int 0)) (.cons (.loc 1) .nil)))) (.cons (.ret (.loc 2)) .nil))
theorem m__law_take : mSs (cx N__law_take (defScope (top 64)) T1) b__law_take (defBody (top 64)) = true := by kernel_rfl
theorem s__law_take : C8.scC N__law_take i__law_take.ps (defScope (top 64)) = true := by kernel_rfl
def i__law_drawn : FnI := ⟨"_law_drawn", ["pool"], [⟨1, [], [.p 0]⟩], none⟩
def T3 : List (Nat × FnI) := (202, i__law_drawn) :: T2
@[reducible] def N__law_drawn : List Str := ["pool", "words", "found", "place", "spot", "sign", "some"]
@[reducible] def b__law_drawn : Ss := (.cons (.asg (.nm 1) (.lst false (.cons (.str "all") (.cons (.str "and") (.cons (.str "children") (.cons (.str "childless") (.cons (.str "crown") (.cons (.str "else") (.cons (.str "if") (.cons (.str "lives") (.cons (.str "not") (.cons (.str "of") (.cons (.str "or") (.cons (.str "stock") (.cons (.str "to") .nil))))))))))))))) (.cons (.asg (.nm 2) (.ix (.loc 1) (.call 201 0 (.cons (.loc 0) (.cons (.int 13) .nil)) .nil))) (.cons (.ifS (.cmp .Gt (.call 201 0 (.cons (.loc 0) (.cons (.int 3) .nil)) .nil) (.int 0)) (.cons (.asg (.nm 2) (.str "")) (.cons (.forS (.nm 3) (.rg1 (.op .add (.int 1) (.call 201 0 (.cons (.loc 0) (.cons (.int 10) .nil)) .nil))) (.cons (.asg (.nm 2) (.op .add (.loc 2) (.ix (.str "abcdefghijklmnopqrstuvwxyz") (.call 201 0 (.cons (.loc 0) (.cons (.int 26) .nil)) .nil)))) .nil)) .nil)) .nil) (.cons (.asg (.nm 4) (.call 201 0 (.cons (.loc 0) (.cons (.op .add (.bif .len (.cons (.loc 2) .nil)) (.int 1)) .nil)) .nil)) (.cons (.asg (.nm 5) (.ix (.lst false (.cons (.str "A") (.cons (.str "0") (.cons (.str " ") (.cons (.str "-") (.cons (.str "\n") (.cons (.str "z") (.cons (.str "Z") (.cons (.str ".") .nil))))))))) (.call 201 0 (.cons (.loc 0) (.cons (.int 8) .nil)) .nil))) (.cons (.asg (.nm 6) (.lst false (.cons (.loc 2) (.cons (.loc 2) (.cons (.op .add (.op .add (.slc (.loc 2) .non (.loc 4)) (.loc 5)) (.slc (.loc 2) (.loc 4) .non)) (.cons (.op .add (.slc (.loc 2) .non (.loc 4)) (.slc (.loc 2) (.op .add (.loc 4) (.int 1)) .non)) .nil)))))) (.cons (.ret (.ix (.op .add (.loc 6) (.lst false (.cons (.op .add (.op .add (.slc (.loc 2) .non (.loc 4)) (.loc 5)) (.slc (.loc 2) (.op .add (.loc 4) (.int 1)) .non)) (.cons (.mth (.loc 2) .upper .nil) .nil)))) (.call 201 0 (.cons (.loc 0) (.cons (.int 6) .nil)) .nil))) .nil)))))))
theorem m__law_drawn : mSs (cx N__law_drawn (defScope (top 67)) T2) b__law_drawn (defBody (top 67)) = true := by kernel_rfl
theorem s__law_drawn : C8.scC N__law_drawn i__law_drawn.ps (defScope (top 67)) = true := by kernel_rfl
def i__law_is_name : FnI := ⟨"_law_is_name", ["odd"], [⟨1, [], [.p 0]⟩], none⟩
def T4 : List (Nat × FnI) := (203, i__law_is_name) :: T3
@[reducible] def N__law_is_name : List Str := ["odd", "words", "sign"]
@[reducible] def b__law_is_name : Ss := (.cons (.asg (.nm 1) (.lst false (.cons (.str "all") (.cons (.str "and") (.cons (.str "children") (.cons (.str "childless") (.cons (.str "crown") (.cons (.str "else") (.cons (.str "if") (.cons (.str "lives") (.cons (.str "not") (.cons (.str "of") (.cons (.str "or") (.cons (.str "stock") (.cons (.str "to") .nil))))))))))))))) (.cons (.ifS (.orE (.notE (.isi (.loc 0) .str)) (.orE (.notE (.chn .LtE .LtE (.int 1) (.bif .len (.cons (.loc 0) .nil)) (.int 8))) (.cmp .In (.loc 0) (.loc 1)))) (.cons (.ret (.bl false)) .nil) .nil) (.cons (.ret (.bif .all (.cons (.comp false [2] (.cmp .In (.loc 2) (.str "abcdefghijklmnopqrstuvwxyz")) (.nm 2) (.seq (.loc 0)) .nil) .nil))) .nil)))
theorem m__law_is_name : mSs (cx N__law_is_name (defScope (top 66)) T3) b__law_is_name (defBody (top 66)) = true := by kernel_rfl
theorem s__law_is_name : C8.scC N__law_is_name i__law_is_name.ps (defScope (top 66)) = true := by kernel_rfl
def i_is_name : FnI := ⟨"is_name", ["thing"], [⟨1, [], [.p 0]⟩, ⟨0, ["thing"], [.k 0]⟩], none⟩
def T5 : List (Nat × FnI) := (0, i_is_name) :: T4
@[reducible] def N_is_name : List Str := ["thing", "sign"]
@[reducible] def b_is_name : Ss := (.cons (.ifS (.orE (.notE (.isi (.loc 0) .str)) (.orE (.notE (.chn .LtE .LtE (.int 1) (.bif .len (.cons (.loc 0) .nil)) (.glo 0))) (.cmp .In (.loc 0) (.glo 1)))) (.cons (.ret (.bl false)) .nil) .nil) (.cons (.ret (.bif .all (.cons (.comp false [1] (.cmp .In (.loc 1) (.glo 2)) (.nm 1) (.seq (.loc 0)) .nil) .nil))) .nil))
theorem m_is_name : mSs (cx N_is_name (defScope (top 33)) T4) b_is_name (defBody (top 33)) = true := by kernel_rfl
theorem s_is_name : C8.scC N_is_name i_is_name.ps (defScope (top 33)) = true := by kernel_rfl
def i_is_whole : FnI := ⟨"is_whole", ["thing"], [⟨1, [], [.p 0]⟩], none⟩
def T6 : List (Nat × FnI) := (1, i_is_whole) :: T5
@[reducible] def N_is_whole : List Str := ["thing"]
@[reducible] def b_is_whole : Ss := (.cons (.ret (.andE (.isi (.loc 0) .int) (.notE (.isi (.loc 0) .bool)))) .nil)
theorem m_is_whole : mSs (cx N_is_whole (defScope (top 31)) T5) b_is_whole (defBody (top 31)) = true := by kernel_rfl
theorem s_is_whole : C8.scC N_is_whole i_is_whole.ps (defScope (top 31)) = true := by kernel_rfl
def i_is_between : FnI := ⟨"is_between", ["thing", "low", "high"], [⟨3, [], [.p 0, .p 1, .p 2]⟩], none⟩
def T7 : List (Nat × FnI) := (2, i_is_between) :: T6
@[reducible] def N_is_between : List Str := ["thing", "low", "high"]
@[reducible] def b_is_between : Ss := (.cons (.ret (.andE (.call 1 0 (.cons (.loc 0) .nil) .nil) (.chn .LtE .LtE (.loc 1) (.loc 0) (.loc 2)))) .nil)
theorem m_is_between : mSs (cx N_is_between (defScope (top 32)) T6) b_is_between (defBody (top 32)) = true := by kernel_rfl
theorem s_is_between : C8.scC N_is_between i_is_between.ps (defScope (top 32)) = true := by kernel_rfl
def i_divisor : FnI := ⟨"divisor", ["one", "other"], [⟨2, [], [.p 0, .p 1]⟩], none⟩
def T8 : List (Nat × FnI) := (3, i_divisor) :: T7
@[reducible] def N_divisor : List Str := ["one", "other"]
@[reducible] def b_divisor : Ss := (.cons (.whl (.cmp .Gt (.loc 1) (.int 0)) (.cons (.par [0, 1] (.cons (.loc 1) (.cons (.op .mod (.loc 0) (.loc 1)) .nil))) .nil)) (.cons (.ret (.loc 0)) .nil))
theorem m_divisor : mSs (cx N_divisor (defScope (top 51)) T7) b_divisor (defBody (top 51)) = true := by kernel_rfl
theorem s_divisor : C8.scC N_divisor i_divisor.ps (defScope (top 51)) = true := by kernel_rfl
def i_is_share : FnI := ⟨"is_share", ["thing"], [⟨1, [], [.p 0]⟩], none⟩
def T9 : List (Nat × FnI) := (4, i_is_share) :: T8
@[reducible] def N_is_share : List Str := ["thing"]
@[reducible] def b_is_share : Ss := (.cons (.ifS (.orE (.notE (.isi (.loc 0) .tuple)) (.orE (.cmp .NotEq (.bif .len (.cons (.loc 0) .nil)) (.int 2)) (.orE (.notE (.call 1 0 (.cons (.ix (.loc 0) (.int 0)) .nil) .nil)) (.notE (.call 1 0 (.cons (.ix (.loc 0) (.int 1)) .nil) .nil))))) (.cons (.ret (.bl false)) .nil) .nil) (.cons (.ret (.andE (.cmp .GtE (.ix (.loc 0) (.int 0)) (.int 0)) (.andE (.cmp .GtE (.ix (.loc 0) (.int 1)) (.int 1)) (.cmp .Eq (.call 3 0 (.cons (.ix (.loc 0) (.int 1)) (.cons (.ix (.loc 0) (.int 0)) .nil)) .nil) (.int 1))))) .nil))
theorem m_is_share : mSs (cx N_is_share (defScope (top 52)) T8) b_is_share (defBody (top 52)) = true := by kernel_rfl
theorem s_is_share : C8.scC N_is_share i_is_share.ps (defScope (top 52)) = true := by kernel_rfl
def i_are_shares : FnI := ⟨"are_shares", ["thing"], [⟨1, [], [.p 0]⟩], none⟩
def T10 : List (Nat × FnI) := (5, i_are_shares) :: T9
@[reducible] def N_are_shares : List Str := ["thing", "one"]
@[reducible] def b_are_shares : Ss := (.cons (.ifS (.orE (.notE (.isi (.loc 0) .tuple)) (.orE (.notE (.chn .LtE .LtE (.int 1) (.bif .len (.cons (.loc 0) .nil)) (.glo 4))) (.notE (.bif .all (.cons (.comp false [1] (.call 4 0 (.cons (.loc 1) .nil) .nil) (.nm 1) (.seq (.loc 0)) .nil) .nil))))) (.cons (.ret (.bl false)) .nil) .nil) (.cons (.ret (.bif .any (.cons (.comp false [1] (.cmp .Gt (.ix (.loc 1) (.int 0)) (.int 0)) (.nm 1) (.seq (.loc 0)) .nil) .nil))) .nil))
theorem m_are_shares : mSs (cx N_are_shares (defScope (top 53)) T9) b_are_shares (defBody (top 53)) = true := by kernel_rfl
theorem s_are_shares : C8.scC N_are_shares i_are_shares.ps (defScope (top 53)) = true := by kernel_rfl
def i_parts_by : FnI := ⟨"parts_by", ["amount", "tops"], [⟨2, [], [.p 0, .p 1]⟩], none⟩
def T11 : List (Nat × FnI) := (6, i_parts_by) :: T10
@[reducible] def N_parts_by : List Str := ["amount", "tops", "together", "found", "top", "lack", "number"]
@[reducible] def b_parts_by : Ss := (.cons (.asg (.nm 2) (.bif .sum (.cons (.loc 1) .nil))) (.cons (.asg (.nm 3) (.comp true [4] (.op .fdiv (.op .mul (.loc 0) (.loc 4)) (.loc 2)) (.nm 4) (.seq (.loc 1)) .nil)) (.cons (.asg (.nm 5) (.op .sub (.loc 0) (.bif .sum (.cons (.loc 3) .nil)))) (.cons (.forS (.tp (.cons (.nm 6) (.cons (.nm 4) .nil))) (.enm (.loc 1)) (.cons (.ifS (.andE (.cmp .Gt (.loc 5) (.int 0)) (.cmp .Gt (.op .mod (.op .mul (.loc 0) (.loc 4)) (.loc 2)) (.int 0))) (.cons (.augS (.loc 3) (.loc 6) .add (.int 1)) (.cons (.aug 5 .sub (.int 1)) .nil)) .nil) .nil)) (.cons (.frz 3) (.cons (.ret (.bif .tuple (.cons (.loc 3) .nil))) .nil))))))
theorem m_parts_by : mSs (cx N_parts_by (defScope (top 54)) T10) b_parts_by (defBody (top 54)) = true := by kernel_rfl
theorem s_parts_by : C8.scC N_parts_by i_parts_by.ps (defScope (top 54)) = true := by kernel_rfl
def i_split_by : FnI := ⟨"split_by", ["amount", "shares"], [⟨2, [], [.p 0, .p 1]⟩], none⟩
def T12 : List (Nat × FnI) := (7, i_split_by) :: T11
@[reducible] def N_split_by : List Str := ["amount", "shares", "bottom", "top", "under"]
@[reducible] def b_split_by : Ss := (.cons (.asg (.nm 2) (.int 1)) (.cons (.forS (.tp (.cons (.nm 3) (.cons (.nm 4) .nil))) (.seq (.loc 1)) (.cons (.asg (.nm 2) (.op .fdiv (.op .mul (.loc 2) (.loc 4)) (.call 3 0 (.cons (.loc 2) (.cons (.loc 4) .nil)) .nil))) .nil)) (.cons (.ret (.call 6 0 (.cons (.loc 0) (.cons (.comp false [3, 4] (.op .mul (.loc 3) (.op .fdiv (.loc 2) (.loc 4))) (.tp (.cons (.nm 3) (.cons (.nm 4) .nil))) (.seq (.loc 1)) .nil) .nil)) .nil)) .nil)))
theorem m_split_by : mSs (cx N_split_by (defScope (top 55)) T11) b_split_by (defBody (top 55)) = true := by kernel_rfl
theorem s_split_by : C8.scC N_split_by i_split_by.ps (defScope (top 55)) = true := by kernel_rfl
def i_parted : FnI := ⟨"parted", ["amount", "shares"], [⟨2, [], [.p 0, .p 1]⟩], none⟩
def T13 : List (Nat × FnI) := (8, i_parted) :: T12
@[reducible] def N_parted : List Str := ["amount", "shares"]
@[reducible] def b_parted : Ss := (.cons (.ifS (.notE (.call 2 0 (.cons (.loc 0) (.cons (.int 0) (.cons (.glo 3) .nil))) .nil)) (.cons (.raise (.fld "NoSum" "thing") (.cons (.loc 0) .nil)) .nil) .nil) (.cons (.ifS (.notE (.call 5 0 (.cons (.loc 1) .nil) .nil)) (.cons (.raise (.cls "NoShares") (.cons (.str "no shares") .nil)) .nil) .nil) (.cons (.ret (.call 7 0 (.cons (.loc 0) (.cons (.loc 1) .nil)) .nil)) .nil)))
theorem m_parted : mSs (cx N_parted (defScope (top 56)) T12) b_parted (defBody (top 56)) = true := by kernel_rfl
theorem s_parted : C8.scC N_parted i_parted.ps (defScope (top 56)) = true := by kernel_rfl
def i_is_day : FnI := ⟨"is_day", ["thing"], [⟨1, [], [.p 0]⟩], none⟩
def T14 : List (Nat × FnI) := (9, i_is_day) :: T13
@[reducible] def N_is_day : List Str := ["thing"]
@[reducible] def b_is_day : Ss := (.cons (.ret (.call 2 0 (.cons (.loc 0) (.cons (.op .sub (.int 0) (.glo 6)) (.cons (.glo 6) .nil))) .nil)) .nil)
theorem m_is_day : mSs (cx N_is_day (defScope (top 37)) T13) b_is_day (defBody (top 37)) = true := by kernel_rfl
theorem s_is_day : C8.scC N_is_day i_is_day.ps (defScope (top 37)) = true := by kernel_rfl
def i_is_death : FnI := ⟨"is_death", ["thing"], [⟨1, [], [.p 0]⟩], none⟩
def T15 : List (Nat × FnI) := (10, i_is_death) :: T14
@[reducible] def N_is_death : List Str := ["thing"]
@[reducible] def b_is_death : Ss := (.cons (.ret (.andE (.isi (.loc 0) .tuple) (.andE (.cmp .Eq (.bif .len (.cons (.loc 0) .nil)) (.int 2)) (.andE (.call 0 0 (.cons (.ix (.loc 0) (.int 0)) .nil) .nil) (.call 9 0 (.cons (.ix (.loc 0) (.int 1)) .nil) .nil))))) .nil)
theorem m_is_death : mSs (cx N_is_death (defScope (top 59)) T14) b_is_death (defBody (top 59)) = true := by kernel_rfl
theorem s_is_death : C8.scC N_is_death i_is_death.ps (defScope (top 59)) = true := by kernel_rfl
def i_check_deaths : FnI := ⟨"check_deaths", ["rows"], [⟨1, [], [.p 0]⟩], none⟩
def T16 : List (Nat × FnI) := (11, i_check_deaths) :: T15
@[reducible] def N_check_deaths : List Str := ["rows", "number", "row"]
@[reducible] def b_check_deaths : Ss := (.cons (.ifS (.orE (.notE (.isi (.loc 0) .tuple)) (.cmp .Gt (.bif .len (.cons (.loc 0) .nil)) (.glo 5))) (.cons (.raise (.fld "NoStory" "number") (.cons .non .nil)) .nil) .nil) (.cons (.forS (.tp (.cons (.nm 1) (.cons (.nm 2) .nil))) (.enm (.loc 0)) (.cons (.ifS (.orE (.notE (.call 10 0 (.cons (.loc 2) .nil) .nil)) (.andE (.cmp .Gt (.loc 1) (.int 0)) (.cmp .GtE (.ix (.ix (.loc 0) (.op .sub (.loc 1) (.int 1))) (.int 0)) (.ix (.loc 2) (.int 0))))) (.cons (.raise (.fld "NoStory" "number") (.cons (.loc 1) .nil)) .nil) .nil) .nil)) .nil))
theorem m_check_deaths : mSs (cx N_check_deaths (defScope (top 60)) T15) b_check_deaths (defBody (top 60)) = true := by kernel_rfl
theorem s_check_deaths : C8.scC N_check_deaths i_check_deaths.ps (defScope (top 60)) = true := by kernel_rfl
def i_Story_M___init__ : FnI := ⟨"Story.__init__", ["self", "deaths"], [⟨2, [], [.p 0, .p 1]⟩], some ("Story", "__init__")⟩
def T17 : List (Nat × FnI) := (12, i_Story_M___init__) :: T16
@[reducible] def N_Story_M___init__ : List Str := ["self", "deaths"]
@[reducible] def b_Story_M___init__ : Ss := (.cons (.asg (.nm 1) (.ife (.cmp .Is (.loc 1) .non) (.tup .nil) (.loc 1))) (.cons (.expr (.call 11 0 (.cons (.loc 1) .nil) .nil)) (.cons (.fldS (.loc 0) "deaths" (.loc 1)) .nil)))
theorem m_Story_M___init__ : mSs (cx N_Story_M___init__ (defScope (inClass (top 61) 0)) T16) b_Story_M___init__ (defBody (inClass (top 61) 0)) = true := by kernel_rfl
theorem s_Story_M___init__ : C8.scC N_Story_M___init__ i_Story_M___init__.ps (defScope (inClass (top 61) 0)) = true := by kernel_rfl
def i_is_person : FnI := ⟨"is_person", ["row", "ahead"], [⟨2, [], [.p 0, .p 1]⟩], none⟩
def T18 : List (Nat × FnI) := (13, i_is_person) :: T17
@[reducible] def N_is_person : List Str := ["row", "ahead"]
@[reducible] def b_is_person : Ss := (.cons (.ifS (.orE (.notE (.isi (.loc 0) .tuple)) (.orE (.cmp .NotEq (.bif .len (.cons (.loc 0) .nil)) (.int 2)) (.orE (.notE (.call 0 0 (.cons (.ix (.loc 0) (.int 0)) .nil) .nil)) (.cmp .In (.ix (.loc 0) (.int 0)) (.loc 1))))) (.cons (.ret (.bl false)) .nil) .nil) (.cons (.ret (.orE (.cmp .Is (.ix (.loc 0) (.int 1)) .non) (.andE (.call 0 0 (.cons (.ix (.loc 0) (.int 1)) .nil) .nil) (.cmp .In (.ix (.loc 0) (.int 1)) (.loc 1))))) .nil))
theorem m_is_person : mSs (cx N_is_person (defScope (top 42)) T17) b_is_person (defBody (top 42)) = true := by kernel_rfl
theorem s_is_person : C8.scC N_is_person i_is_person.ps (defScope (top 42)) = true := by kernel_rfl
def i_check_people : FnI := ⟨"check_people", ["rows"], [⟨1, [], [.p 0]⟩], none⟩
def T19 : List (Nat × FnI) := (14, i_check_people) :: T18
@[reducible] def N_check_people : List Str := ["rows", "ahead", "number", "row"]
@[reducible] def b_check_people : Ss := (.cons (.ifS (.orE (.notE (.isi (.loc 0) .tuple)) (.notE (.chn .LtE .LtE (.int 1) (.bif .len (.cons (.loc 0) .nil)) (.glo 7)))) (.cons (.raise (.fld "NoPeople" "number") (.cons .non .nil)) .nil) .nil) (.cons (.asg (.nm 1) (.lst true .nil)) (.cons (.forS (.tp (.cons (.nm 2) (.cons (.nm 3) .nil))) (.enm (.loc 0)) (.cons (.ifS (.notE (.call 13 0 (.cons (.loc 3) (.cons (.loc 1) .nil)) .nil)) (.cons (.raise (.fld "NoPeople" "number") (.cons (.loc 2) .nil)) .nil) .nil) (.cons (.expr (.mth (.loc 1) .append (.cons (.ix (.loc 3) (.int 0)) .nil))) .nil))) .nil)))
theorem m_check_people : mSs (cx N_check_people (defScope (top 43)) T18) b_check_people (defBody (top 43)) = true := by kernel_rfl
theorem s_check_people : C8.scC N_check_people i_check_people.ps (defScope (top 43)) = true := by kernel_rfl
def i_is_sum : FnI := ⟨"is_sum", ["thing"], [⟨1, [], [.p 0]⟩], none⟩
def T20 : List (Nat × FnI) := (15, i_is_sum) :: T19
@[reducible] def N_is_sum : List Str := ["thing"]
@[reducible] def b_is_sum : Ss := (.cons (.ret (.call 2 0 (.cons (.loc 0) (.cons (.int 0) (.cons (.glo 9) .nil))) .nil)) .nil)
theorem m_is_sum : mSs (cx N_is_sum (defScope (top 35)) T19) b_is_sum (defBody (top 35)) = true := by kernel_rfl
theorem s_is_sum : C8.scC N_is_sum i_is_sum.ps (defScope (top 35)) = true := by kernel_rfl
def i_is_ware : FnI := ⟨"is_ware", ["row", "ahead"], [⟨2, [], [.p 0, .p 1]⟩], none⟩
def T21 : List (Nat × FnI) := (16, i_is_ware) :: T20
@[reducible] def N_is_ware : List Str := ["row", "ahead"]
@[reducible] def b_is_ware : Ss := (.cons (.ifS (.orE (.notE (.isi (.loc 0) .tuple)) (.orE (.cmp .NotEq (.bif .len (.cons (.loc 0) .nil)) (.int 3)) (.orE (.notE (.call 0 0 (.cons (.ix (.loc 0) (.int 0)) .nil) .nil)) (.cmp .In (.ix (.loc 0) (.int 0)) (.loc 1))))) (.cons (.ret (.bl false)) .nil) .nil) (.cons (.ret (.andE (.call 0 0 (.cons (.ix (.loc 0) (.int 1)) .nil) .nil) (.call 15 0 (.cons (.ix (.loc 0) (.int 2)) .nil) .nil))) .nil))
theorem m_is_ware : mSs (cx N_is_ware (defScope (top 44)) T20) b_is_ware (defBody (top 44)) = true := by kernel_rfl
theorem s_is_ware : C8.scC N_is_ware i_is_ware.ps (defScope (top 44)) = true := by kernel_rfl
def i_check_goods : FnI := ⟨"check_goods", ["rows"], [⟨1, [], [.p 0]⟩], none⟩
def T22 : List (Nat × FnI) := (17, i_check_goods) :: T21
@[reducible] def N_check_goods : List Str := ["rows", "ahead", "number", "row"]
@[reducible] def b_check_goods : Ss := (.cons (.ifS (.orE (.notE (.isi (.loc 0) .tuple)) (.cmp .Gt (.bif .len (.cons (.loc 0) .nil)) (.glo 8))) (.cons (.raise (.fld "NoGoods" "number") (.cons .non .nil)) .nil) .nil) (.cons (.asg (.nm 1) (.lst true .nil)) (.cons (.forS (.tp (.cons (.nm 2) (.cons (.nm 3) .nil))) (.enm (.loc 0)) (.cons (.ifS (.notE (.call 16 0 (.cons (.loc 3) (.cons (.loc 1) .nil)) .nil)) (.cons (.raise (.fld "NoGoods" "number") (.cons (.loc 2) .nil)) .nil) .nil) (.cons (.expr (.mth (.loc 1) .append (.cons (.ix (.loc 3) (.int 0)) .nil))) .nil))) .nil)))
theorem m_check_goods : mSs (cx N_check_goods (defScope (top 45)) T21) b_check_goods (defBody (top 45)) = true := by kernel_rfl
theorem s_check_goods : C8.scC N_check_goods i_check_goods.ps (defScope (top 45)) = true := by kernel_rfl
def i_check_sum : FnI := ⟨"check_sum", ["thing"], [⟨1, [], [.p 0]⟩], none⟩
def T23 : List (Nat × FnI) := (18, i_check_sum) :: T22
@[reducible] def N_check_sum : List Str := ["thing"]
@[reducible] def b_check_sum : Ss := (.cons (.ifS (.notE (.call 15 0 (.cons (.loc 0) .nil) .nil)) (.cons (.raise (.fld "NoSum" "thing") (.cons (.loc 0) .nil)) .nil) .nil) .nil)
theorem m_check_sum : mSs (cx N_check_sum (defScope (top 36)) T22) b_check_sum (defBody (top 36)) = true := by kernel_rfl
theorem s_check_sum : C8.scC N_check_sum i_check_sum.ps (defScope (top 36)) = true := by kernel_rfl
def i_House_M___init__ : FnI := ⟨"House.__init__", ["self", "people", "goods", "purse", "debts"], [⟨2, [], [.p 0, .p 1, .cn, .ci 0, .ci 0]⟩], some ("House", "__init__")⟩
def T24 : List (Nat × FnI) := (19, i_House_M___init__) :: T23
@[reducible] def N_House_M___init__ : List Str := ["self", "people", "goods", "purse", "debts"]
@[reducible] def b_House_M___init__ : Ss := (.cons (.expr (.call 14 0 (.cons (.loc 1) .nil) .nil)) (.cons (.asg (.nm 2) (.ife (.cmp .Is (.loc 2) .non) (.tup .nil) (.loc 2))) (.cons (.expr (.call 17 0 (.cons (.loc 2) .nil) .nil)) (.cons (.expr (.call 18 0 (.cons (.loc 3) .nil) .nil)) (.cons (.expr (.call 18 0 (.cons (.loc 4) .nil) .nil)) (.cons (.fldS (.loc 0) "folk" (.loc 1)) (.cons (.fldS (.loc 0) "wares" (.loc 2)) (.cons (.fldS (.loc 0) "purse" (.loc 3)) (.cons (.fldS (.loc 0) "debts" (.loc 4)) .nil)))))))))
theorem m_House_M___init__ : mSs (cx N_House_M___init__ (defScope (inClass (top 46) 0)) T23) b_House_M___init__ (defBody (inClass (top 46) 0)) = true := by kernel_rfl
theorem s_House_M___init__ : C8.scC N_House_M___init__ i_House_M___init__.ps (defScope (inClass (top 46) 0)) = true := by kernel_rfl
def i__law_sort : FnI := ⟨"_law_sort", ["caught"], [⟨1, [], [.p 0]⟩], none⟩
def T25 : List (Nat × FnI) := (204, i__law_sort) :: T24
@[reducible] def N__law_sort : List Str := ["caught", "kinds", "words", "at", "families", "own", "due"]
@[reducible] def b__law_sort : Ss := (.cons (.asg (.nm 1) (.lst false (.cons (.prm (.isc "NoName") (.cons (.loc 0) .nil) .nil) (.cons (.prm (.isc "NoSum") (.cons (.loc 0) .nil) .nil) (.cons (.prm (.isc "NoShares") (.cons (.loc 0) .nil) .nil) .nil))))) (.cons (.asg (.nm 1) (.op .add (.loc 1) (.lst false (.cons (.prm (.isc "NoPeople") (.cons (.loc 0) .nil) .nil) (.cons (.prm (.isc "NoGoods") (.cons (.loc 0) .nil) .nil) (.cons (.prm (.isc "NoText") (.cons (.loc 0) .nil) .nil) .nil)))))) (.cons (.asg (.nm 1) (.op .add (.loc 1) (.lst false (.cons (.prm (.isc "NoStory") (.cons (.loc 0) .nil) .nil) (.cons (.prm (.isc "NoDay") (.cons (.loc 0) .nil) .nil) (.cons (.prm (.isc "NoCond") (.cons (.loc 0) .nil) .nil) .nil)))))) (.cons (.asg (.nm 1) (.op .add (.loc 1) (.lst false (.cons (.prm (.isc "NoWhom") (.cons (.loc 0) .nil) .nil) (.cons (.prm (.isc "NoClause") (.cons (.loc 0) .nil) .nil) (.cons (.prm (.isc "NoReading") (.cons (.loc 0) .nil) .nil) .nil)))))) (.cons (.asg (.nm 1) (.op .add (.loc 1) (.lst false (.cons (.prm (.isc "NoWord") (.cons (.loc 0) .nil) .nil) (.cons (.prm (.isc "LabelStands") (.cons (.loc 0) .nil) .nil) (.cons (.prm (.isc "DayStands") (.cons (.loc 0) .nil) .nil) .nil)))))) (.cons (.asg (.nm 1) (.op .add (.loc 1) (.lst false (.cons (.prm (.isc "NoRow") (.cons (.loc 0) .nil) .nil) (.cons (.prm (.isc "NoPerson") (.cons (.loc 0) .nil) .nil) (.cons (.prm (.isc "NoThing") (.cons (.loc 0) .nil) .nil) .nil)))))) (.cons (.asg (.nm 1) (.op .add (.loc 1) (.lst false (.cons (.prm (.isc "NoLabel") (.cons (.loc 0) .nil) .nil) (.cons (.prm (.isc "NoUndo") (.cons (.loc 0) .nil) .nil) (.cons (.prm (.isc "TooMany") (.cons (.loc 0) .nil) .nil) .nil)))))) (.cons (.asg (.nm 2) (.lst false (.cons (.str "name") (.cons (.str "sum") (.cons (.str "shares") (.cons (.str "people") (.cons (.str "goods") (.cons (.str "text") (.cons (.str "story") (.cons (.str "day") (.cons (.str "cond") (.cons (.str "whom") (.cons (.str "clause") (.cons (.str "reading") .nil)))))))))))))) (.cons (.asg (.nm 2) (.op .add (.loc 2) (.lst false (.cons (.str "word") (.cons (.str "label stands") (.cons (.str "day stands") (.cons (.str "row") (.cons (.str "person") (.cons (.str "thing") (.cons (.str "label") (.cons (.str "undo") (.cons (.str "many") .nil)))))))))))) (.cons (.ifS (.cmp .NotEq (.mth (.loc 1) .count (.cons (.bl true) .nil)) (.int 1)) (.cons (.ret (.str "other")) .nil) .nil) (.cons (.asg (.nm 3) (.mth (.loc 1) .index (.cons (.bl true) .nil))) (.cons (.asg (.nm 4) (.lst false (.cons (.prm (.isc "WordError") (.cons (.loc 0) .nil) .nil) (.cons (.prm (.isc "LostError") (.cons (.loc 0) .nil) .nil) (.cons (.prm (.isc "RoomError") (.cons (.loc 0) .nil) .nil) .nil))))) (.cons (.asg (.nm 5) (.lst false (.cons (.prm (.isb "ValueError") (.cons (.loc 0) .nil) .nil) (.cons (.prm (.isb "LookupError") (.cons (.loc 0) .nil) .nil) (.cons (.prm (.isb "ArithmeticError") (.cons (.loc 0) .nil) .nil) .nil))))) (.cons (.asg (.nm 6) (.lst false (.cons (.cmp .Lt (.loc 3) (.int 16)) (.cons (.chn .LtE .Lt (.int 16) (.loc 3) (.int 20)) (.cons (.cmp .Eq (.loc 3) (.int 20)) .nil))))) (.cons (.ret (.ix (.lst false (.cons (.ix (.loc 2) (.loc 3)) (.cons (.str "other") .nil))) (.bif .int (.cons (.orE (.cmp .NotEq (.loc 4) (.loc 6)) (.cmp .NotEq (.loc 5) (.loc 6))) .nil)))) .nil)))))))))))))))
theorem m__law_sort : mSs (cx N__law_sort (defScope (top 65)) T24) b__law_sort (defBody (top 65)) = true := by kernel_rfl
theorem s__law_sort : C8.scC N__law_sort i__law_sort.ps (defScope (top 65)) = true := by kernel_rfl
def i__law_refused : FnI := ⟨"_law_refused", ["which", "odd"], [⟨2, [], [.p 0, .p 1]⟩], none⟩
def T26 : List (Nat × FnI) := (205, i__law_refused) :: T25
@[reducible] def N__law_refused : List Str := ["which", "odd", "caught", "e", "word"]
@[reducible] def b__law_refused : Ss := (.cons (.asg (.nm 2) .non) (.cons (.tryK (.cons (.ifS (.cmp .Eq (.loc 0) (.int 0)) (.cons (.expr (.call 8 0 (.cons (.op .sub (.int 0) (.int 1)) (.cons (.loc 1) .nil)) .nil)) .nil) (.cons (.ifS (.cmp .Eq (.loc 0) (.int 1)) (.cons (.expr (.prm (.new "Story" 12 0) (.cons (.tup (.cons (.tup (.cons (.loc 1) (.cons (.int 3) .nil))) .nil)) .nil) .nil)) .nil) (.cons (.expr (.prm (.new "House" 19 0) (.cons (.tup (.cons (.tup (.cons (.loc 1) (.cons .non .nil))) .nil)) .nil) .nil)) .nil)) .nil)) .nil) "WordError" 3 2) (.cons (.asg (.nm 4) (.call 204 0 (.cons (.loc 2) .nil) .nil)) (.cons (.ifS (.cmp .Eq (.loc 4) (.str "sum")) (.cons (.ret (.tup (.cons (.loc 4) (.cons (.prm (.xf "thing") (.cons (.loc 2) .nil) .nil) .nil)))) .nil) .nil) (.cons (.ifS (.cmp .In (.loc 4) (.lst false (.cons (.str "story") (.cons (.str "people") .nil)))) (.cons (.ret (.tup (.cons (.loc 4) (.cons (.prm (.xf "number") (.cons (.loc 2) .nil) .nil) .nil)))) .nil) .nil) (.cons (.ret (.tup (.cons (.loc 4) (.cons .non .nil)))) .nil))))))
theorem m__law_refused : mSs (cx N__law_refused (defScope (top 68)) T25) b__law_refused (defBody (top 68)) = true := by kernel_rfl
theorem s__law_refused : C8.scC N__law_refused i__law_refused.ps (defScope (top 68)) = true := by kernel_rfl
def i_law : FnI := ⟨"law", ["script"], [⟨1, [], [.p 0]⟩], none⟩
def T27 : List (Nat × FnI) := (206, i_law) :: T26
@[reducible] def N_law : List Str := ["script", "things", "k", "pool", "made", "odd", "turn", "found", "due", "which"]
@[reducible] def b_law : Ss := (.cons (.asg (.nm 1) (.lst true (.cons .non (.cons (.int 0) (.cons (.int 1) (.cons (.bl true) (.cons (.str "") (.cons (.str " ") (.cons (.tup (.cons (.str "ann") .nil)) (.cons (.lst false (.cons (.str "ann") .nil)) (.cons (.prm .dnew .nil .nil) (.cons (.tup (.cons (.lst false .nil) .nil)) (.cons (.lst false (.cons (.lst false (.cons (.str "ann") .nil)) .nil)) (.cons (.str "ann ") (.cons (.str "Ann") (.cons (.str "a\nb") (.cons (.tup .nil) .nil))))))))))))))))) (.cons (.expr (.mth (.loc 1) .append (.cons (.str "abcdefghi") .nil))) (.cons (.frz 1) (.cons (.forS (.nm 2) (.rg1 (.bif .max (.cons (.int 2) (.cons (.bif .min (.cons (.bif .len (.cons (.loc 0) .nil)) (.cons (.int 16) .nil))) .nil)))) (.cons (.asg (.nm 3) (.call 200 0 (.cons (.loc 0) (.cons (.loc 2) .nil)) .nil)) (.cons (.asg (.nm 4) (.comp false [6] (.call 202 0 (.cons (.loc 3) .nil) .nil) (.nm 6) (.rg1 (.int 6)) .nil)) (.cons (.forS (.nm 5) (.seq (.op .add (.loc 4) (.loc 1))) (.cons (.par [7, 8] (.cons (.call 0 0 (.cons (.loc 5) .nil) .nil) (.cons (.call 203 0 (.cons (.loc 5) .nil) .nil) .nil))) (.cons (.ifS (.orE (.notE (.isi (.loc 7) .bool)) (.cmp .NotEq (.loc 7) (.loc 8))) (.cons (.ret (.bl false)) .nil) .nil) (.cons (.ifS (.andE (.notE (.loc 8)) (.cmp .NotEq (.comp false [9] (.call 205 0 (.cons (.loc 9) (.cons (.loc 5) .nil)) .nil) (.nm 9) (.seq (.lst false (.cons (.int 1) (.cons (.int 2) .nil)))) .nil) (.lst false (.cons (.tup (.cons (.str "story") (.cons (.int 0) .nil))) (.cons (.tup (.cons (.str "people") (.cons (.int 0) .nil))) .nil))))) (.cons (.ret (.bl false)) .nil) .nil) .nil)))) (.cons (.ifS (.orE (.cmp .NotEq (.call 205 0 (.cons (.int 0) (.cons (.ix (.loc 4) (.int 0)) .nil)) .nil) (.tup (.cons (.str "sum") (.cons (.op .sub (.int 0) (.int 1)) .nil)))) (.notE (.call 0 1 .nil (.cons (.str "abcdefgh") .nil)))) (.cons (.ret (.bl false)) .nil) .nil) .nil))))) (.cons (.ret (.bl true)) .nil)))))
theorem m_law : mSs (cx N_law (defScope (top 69)) T26) b_law (defBody (top 69)) = true := by kernel_rfl
theorem s_law : C8.scC N_law i_law.ps (defScope (top 69)) = true := by kernel_rfl
theorem ini_NoSum : iniS (defBody (inClass (top 5) 0)) (defScope (inClass (top 5) 0)) "WordError" "thing" "thing" = true := by kernel_rfl
theorem ini_NoStory : iniS (defBody (inClass (top 10) 0)) (defScope (inClass (top 10) 0)) "WordError" "number" "number" = true := by kernel_rfl
theorem ini_NoPeople : iniS (defBody (inClass (top 7) 0)) (defScope (inClass (top 7) 0)) "WordError" "number" "number" = true := by kernel_rfl
theorem ini_NoGoods : iniS (defBody (inClass (top 8) 0)) (defScope (inClass (top 8) 0)) "WordError" "number" "number" = true := by kernel_rfl
def shs : Nat → List Y.Shape := fun f => match f with | 200 => i__law_pool.shapes | 201 => i__law_take.shapes | 202 => i__law_drawn.shapes | 203 => i__law_is_name.shapes | 0 => i_is_name.shapes | 1 => i_is_whole.shapes | 2 => i_is_between.shapes | 3 => i_divisor.shapes | 4 => i_is_share.shapes | 5 => i_are_shares.shapes | 6 => i_parts_by.shapes | 7 => i_split_by.shapes | 8 => i_parted.shapes | 9 => i_is_day.shapes | 10 => i_is_death.shapes | 11 => i_check_deaths.shapes | 12 => i_Story_M___init__.shapes | 13 => i_is_person.shapes | 14 => i_check_people.shapes | 15 => i_is_sum.shapes | 16 => i_is_ware.shapes | 17 => i_check_goods.shapes | 18 => i_check_sum.shapes | 19 => i_House_M___init__.shapes | 204 => i__law_sort.shapes | 205 => i__law_refused.shapes | 206 => i_law.shapes | _ => []
end K01
namespace K01
open PySem PySem.Spec PyProof.Rows L2 Y
def dd (i : Nat) (x : Str) (l : List He.Dv) : He.DefD := ⟨(x, none), x, x, defArgs (top i), defBody (top i), defScope (top i), l, []⟩
def dm (i j : Nat) (c m q : Str) (l : List He.Dv) : He.DefD := ⟨(c, some m), m, q, defArgs (inClass (top i) j), defBody (inClass (top i) j), defScope (inClass (top i) j), l, []⟩
def fn : List He.DefD := [dd 63 "_law_pool" [], dd 64 "_law_take" [], dd 67 "_law_drawn" [], dd 66 "_law_is_name" [], dd 33 "is_name" [], dd 31 "is_whole" [], dd 32 "is_between" [], dd 51 "divisor" [], dd 52 "is_share" [], dd 53 "are_shares" [], dd 54 "parts_by" [], dd 55 "split_by" [], dd 56 "parted" [], dd 37 "is_day" [], dd 59 "is_death" [], dd 60 "check_deaths" [], dm 61 0 "Story" "__init__" "Story.__init__" [.non], dd 42 "is_person" [], dd 43 "check_people" [], dd 35 "is_sum" [], dd 44 "is_ware" [], dd 45 "check_goods" [], dd 36 "check_sum" [], dm 46 0 "House" "__init__" "House.__init__" [.non, .int 0, .int 0], dd 65 "_law_sort" [], dd 68 "_law_refused" [], dd 69 "law" [], dm 5 0 "NoSum" "__init__" "NoSum.__init__" [], dm 10 0 "NoStory" "__init__" "NoStory.__init__" [], dm 7 0 "NoPeople" "__init__" "NoPeople.__init__" []] ++ [dm 8 0 "NoGoods" "__init__" "NoGoods.__init__" []]
def names : List Str := (["_law_pool", "_law_take", "_law_drawn", "_law_is_name", "is_name", "is_whole", "is_between", "divisor", "is_share", "are_shares", "parts_by", "split_by", "parted", "is_day", "is_death", "check_deaths", "is_person", "check_people", "is_sum", "is_ware", "check_goods", "check_sum", "_law_sort", "_law_refused", "law"] : List Str)
def more : List He.Fa := [He.Fa.meth "Story" "__init__", He.Fa.meth "House" "__init__"]
def fa : List He.Fa := names.map He.Fa.glo ++ (free.map He.Fa.free ++ more)
abbrev hk : PySem.W.Hook := hookY 5 fa fn tb
def ob (s : PySem.W.SharedT) : AlY := obsYG 5 fa fn tb (HandSHeadRun.getT s)
theorem ob_eq (s : PySem.W.SharedT) : ob s = hk.obs s.abs := obsYG_eq (HandSHeadRun.getT_eq s)
def loose : List Str := (["WordError", "LostError", "RoomError", "NoName", "NoSum", "NoShares", "NoPeople", "NoGoods", "NoText", "NoStory", "NoDay", "NoCond", "NoWhom", "NoClause", "NoReading", "NoWord", "LabelStands", "DayStands", "NoRow", "NoPerson", "NoThing", "NoLabel", "NoUndo", "TooMany", "LETTERS", "MOST_LETTERS", "MOST_SUM", "MOST_DAY", "WORDS", "is_whole"] : List Str) ++ (["is_between", "is_name", "check_name", "is_sum", "check_sum", "is_day", "check_day", "MOST_PEOPLE", "MOST_GOODS", "is_person", "check_people", "is_ware", "check_goods", "House", "person_row", "MOST_AMOUNT", "MOST_SHARES", "divisor", "is_share", "are_shares", "parts_by", "split_by", "parted", "MOST_DEATHS", "is_death", "check_deaths", "Story", "_law_pool", "_law_take", "_law_sort"] : List Str) ++ (["_law_is_name", "_law_drawn", "_law_refused"] : List Str)
theorem run (w : World) : HandSHeadRun.RunEq R (PySem.W.view R.prog [69]) hk ob 12000 loose w := by
  intro os
  kernel_rfl
end K01
namespace K01
open Y
open PySem (sizeLine Str Addr)
open L2 (atI ixN)
/-! ### names -/
def letS : Str := "abcdefghijklmnopqrstuvwxyz"
def wordL : List Str := ["all", "and", "children", "childless", "crown", "else", "if", "lives", "not", "of", "or", "stock", "to"]
def wordD : List D := wordL.map D.str
def isNS (x : Str) : Bool := decide ((1 : Int) ≤ (x.length : Int)) && (decide ((x.length : Int) ≤ 8) && (!(inD (.str x) wordD) && (x.cps.toList.map fun c => hasS ⟨#[c]⟩ letS).all id))
def isN : D → Bool
  | .str x => isNS x
  | _ => false
def Odd : D → Prop
  | .str x => x.length ≤ sizeLine
  | .non => True
  | .bl _ => True
  | .int _ => True
  | .tup _ => True
  | .lst _ => True
  | .dct _ _ => True
  | _ => False
@[reducible] def bad (d : D) : Prop := Odd d ∧ isN d = false
abbrev PoolAt (h : Hd) (a : Addr) : Prop := ∃ n : Int, h a = some (.lst [.int n])
abbrev never : Y.Spec := fun _ _ _ _ => False
def S__law_pool : Y.Spec := fun ds h Q _ => ∃ (is : List Int) (k : Nat), ds = [.scr is, .int k] ∧ k < 32 ∧ ∀ a n, h a = none → Q (.ref a) (hupd h a (.lst [.int n]))
def S__law_take : Y.Spec := fun ds h Q _ => ∃ (a : Addr) (n m : Int), ds = [.ref a, .int m] ∧ h a = some (.lst [.int n]) ∧ 0 < m ∧ m < 2 ^ 64 ∧ ∀ (d : Nat) (n' : Int), (d : Int) < m → Q (.int d) (hupd h a (.lst [.int n']))
def S__law_drawn : Y.Spec := fun ds h Q _ => ∃ (a : Addr) (n : Int), ds = [.ref a] ∧ h a = some (.lst [.int n]) ∧ ∀ (x : Str) (n' : Int), x.length ≤ 64 → Q (.str x) (hupd h a (.lst [.int n']))
def S__law_is_name : Y.Spec := fun ds h Q _ => ∃ d, ds = [d] ∧ Odd d ∧ Q (.bl (isN d)) h
def S_is_name : Y.Spec := fun ds h Q _ => ∃ d, ds = [d] ∧ Odd d ∧ Q (.bl (isN d)) h
def S_is_whole : Y.Spec := fun ds h Q _ => ∃ i, ds = [.int i] ∧ Q (.bl true) h
def S_is_between : Y.Spec := fun ds h Q _ => ∃ i l u, ds = [.int i, .int l, .int u] ∧ Q (.bl (decide (l ≤ i) && decide (i ≤ u))) h
def S_divisor : Y.Spec := never
def S_is_share : Y.Spec := never
def S_are_shares : Y.Spec := never
def S_parts_by : Y.Spec := never
def S_split_by : Y.Spec := never
def S_parted : Y.Spec := fun ds h _ X => ∃ d, ds = [.int (-1), d] ∧ X ⟨"NoSum", ["thing"], [.int (-1)]⟩ h
def S_is_day : Y.Spec := never
def S_is_death : Y.Spec := fun ds h Q _ => ∃ d e, ds = [.tup [d, e]] ∧ bad d ∧ Q (.bl false) h
def S_check_deaths : Y.Spec := fun ds h _ X => ∃ d e, ds = [.tup [.tup [d, e]]] ∧ bad d ∧ X ⟨"NoStory", ["number"], [.int 0]⟩ h
def S_Story_M___init__ : Y.Spec := fun ds h _ X => ∃ a d e, ds = [.ref a, .tup [.tup [d, e]]] ∧ bad d ∧ X ⟨"NoStory", ["number"], [.int 0]⟩ h
def S_is_person : Y.Spec := fun ds h Q _ => ∃ d e a, ds = [.tup [d, e], a] ∧ bad d ∧ Q (.bl false) h
def S_check_people : Y.Spec := fun ds h _ X => ∃ d e, ds = [.tup [.tup [d, e]]] ∧ bad d ∧ ∀ h', Ext h h' → X ⟨"NoPeople", ["number"], [.int 0]⟩ h'
def S_is_sum : Y.Spec := never
def S_is_ware : Y.Spec := never
def S_check_goods : Y.Spec := never
def S_check_sum : Y.Spec := never
def S_House_M___init__ : Y.Spec := fun ds h _ X => ∃ a d e, ds = [.ref a, .tup [.tup [d, e]], .non, .int 0, .int 0] ∧ bad d ∧ ∀ h', Ext h h' → X ⟨"NoPeople", ["number"], [.int 0]⟩ h'
def S__law_sort : Y.Spec := fun ds h Q _ => ∃ c f d w, ds = [.exc c [f] [d]] ∧ ((c = "NoSum" ∧ w = "sum") ∨ (c = "NoStory" ∧ w = "story") ∨ (c = "NoPeople" ∧ w = "people")) ∧ Q (.str w) h
def refW (w : Int) : D := if w = 0 then .tup [.str "sum", .int (-1)] else if w = 1 then .tup [.str "story", .int 0] else .tup [.str "people", .int 0]
def S__law_refused : Y.Spec := fun ds h Q _ => ∃ (w : Int) (d : D), ds = [.int w, d] ∧ (w = 0 ∨ ((w = 1 ∨ w = 2) ∧ bad d)) ∧ ∀ h', Ext h h' → Q (refW w) h'
def S_law : Y.Spec := lawS 63
@[reducible] def G : Prg where
  Φ := fun f => match f with | 200 => S__law_pool | 201 => S__law_take | 202 => S__law_drawn | 203 => S__law_is_name | 0 => S_is_name | 1 => S_is_whole | 2 => S_is_between | 3 => S_divisor | 4 => S_is_share | 5 => S_are_shares | 6 => S_parts_by | 7 => S_split_by | 8 => S_parted | 9 => S_is_day | 10 => S_is_death | 11 => S_check_deaths | 12 => S_Story_M___init__ | 13 => S_is_person | 14 => S_check_people | 15 => S_is_sum | 16 => S_is_ware | 17 => S_check_goods | 18 => S_check_sum | 19 => S_House_M___init__ | 204 => S__law_sort | 205 => S__law_refused | 206 => S_law | _ => fun _ _ _ _ => False
  Γ := fun k => match k with | 0 => .int 8 | 1 => .tup [.str "all", .str "and", .str "children", .str "childless", .str "crown", .str "else", .str "if", .str "lives", .str "not", .str "of", .str "or", .str "stock", .str "to"] | 2 => .str "abcdefghijklmnopqrstuvwxyz" | 3 => .int 1000000000000 | 4 => .int 64 | 5 => .int 8 | 6 => .int 9999 | 7 => .int 8 | 8 => .int 8 | 9 => .int 1000000000 | _ => .non
  sh := fun f s => ((shs f)[s]?).getD ⟨0, [], []⟩
  fl := tb.flF
  oc := tb.ocF
  sub := tb.subF
  subB := tb.subBF
  xfl := tb.xflF
  kt := false
theorem call__law_pool_0 {x0 x1 : D} {h : Hd} {Q : QD} {X : QX} (q : S__law_pool [x0, x1] h Q X) : callD G 200 0 [x0, x1] [] h Q X := ⟨rfl, rfl, q⟩
theorem call__law_take_0 {x0 x1 : D} {h : Hd} {Q : QD} {X : QX} (q : S__law_take [x0, x1] h Q X) : callD G 201 0 [x0, x1] [] h Q X := ⟨rfl, rfl, q⟩
theorem call__law_drawn_0 {x0 : D} {h : Hd} {Q : QD} {X : QX} (q : S__law_drawn [x0] h Q X) : callD G 202 0 [x0] [] h Q X := ⟨rfl, rfl, q⟩
theorem call__law_is_name_0 {x0 : D} {h : Hd} {Q : QD} {X : QX} (q : S__law_is_name [x0] h Q X) : callD G 203 0 [x0] [] h Q X := ⟨rfl, rfl, q⟩
theorem call_is_name_0 {x0 : D} {h : Hd} {Q : QD} {X : QX} (q : S_is_name [x0] h Q X) : callD G 0 0 [x0] [] h Q X := ⟨rfl, rfl, q⟩
theorem call_is_name_1 {y0 : D} {h : Hd} {Q : QD} {X : QX} (q : S_is_name [y0] h Q X) : callD G 0 1 [] [y0] h Q X := ⟨rfl, rfl, q⟩
theorem call_is_whole_0 {x0 : D} {h : Hd} {Q : QD} {X : QX} (q : S_is_whole [x0] h Q X) : callD G 1 0 [x0] [] h Q X := ⟨rfl, rfl, q⟩
theorem call_is_between_0 {x0 x1 x2 : D} {h : Hd} {Q : QD} {X : QX} (q : S_is_between [x0, x1, x2] h Q X) : callD G 2 0 [x0, x1, x2] [] h Q X := ⟨rfl, rfl, q⟩
theorem call_divisor_0 {x0 x1 : D} {h : Hd} {Q : QD} {X : QX} (q : S_divisor [x0, x1] h Q X) : callD G 3 0 [x0, x1] [] h Q X := ⟨rfl, rfl, q⟩
theorem call_is_share_0 {x0 : D} {h : Hd} {Q : QD} {X : QX} (q : S_is_share [x0] h Q X) : callD G 4 0 [x0] [] h Q X := ⟨rfl, rfl, q⟩
theorem call_are_shares_0 {x0 : D} {h : Hd} {Q : QD} {X : QX} (q : S_are_shares [x0] h Q X) : callD G 5 0 [x0] [] h Q X := ⟨rfl, rfl, q⟩
theorem call_parts_by_0 {x0 x1 : D} {h : Hd} {Q : QD} {X : QX} (q : S_parts_by [x0, x1] h Q X) : callD G 6 0 [x0, x1] [] h Q X := ⟨rfl, rfl, q⟩
theorem call_split_by_0 {x0 x1 : D} {h : Hd} {Q : QD} {X : QX} (q : S_split_by [x0, x1] h Q X) : callD G 7 0 [x0, x1] [] h Q X := ⟨rfl, rfl, q⟩
theorem call_parted_0 {x0 x1 : D} {h : Hd} {Q : QD} {X : QX} (q : S_parted [x0, x1] h Q X) : callD G 8 0 [x0, x1] [] h Q X := ⟨rfl, rfl, q⟩
theorem call_is_day_0 {x0 : D} {h : Hd} {Q : QD} {X : QX} (q : S_is_day [x0] h Q X) : callD G 9 0 [x0] [] h Q X := ⟨rfl, rfl, q⟩
theorem call_is_death_0 {x0 : D} {h : Hd} {Q : QD} {X : QX} (q : S_is_death [x0] h Q X) : callD G 10 0 [x0] [] h Q X := ⟨rfl, rfl, q⟩
theorem call_check_deaths_0 {x0 : D} {h : Hd} {Q : QD} {X : QX} (q : S_check_deaths [x0] h Q X) : callD G 11 0 [x0] [] h Q X := ⟨rfl, rfl, q⟩
theorem call_Story_M___init___0 {x0 x1 : D} {h : Hd} {Q : QD} {X : QX} (q : S_Story_M___init__ [x0, x1] h Q X) : callD G 12 0 [x0, x1] [] h Q X := ⟨rfl, rfl, q⟩
theorem call_is_person_0 {x0 x1 : D} {h : Hd} {Q : QD} {X : QX} (q : S_is_person [x0, x1] h Q X) : callD G 13 0 [x0, x1] [] h Q X := ⟨rfl, rfl, q⟩
theorem call_check_people_0 {x0 : D} {h : Hd} {Q : QD} {X : QX} (q : S_check_people [x0] h Q X) : callD G 14 0 [x0] [] h Q X := ⟨rfl, rfl, q⟩
theorem call_is_sum_0 {x0 : D} {h : Hd} {Q : QD} {X : QX} (q : S_is_sum [x0] h Q X) : callD G 15 0 [x0] [] h Q X := ⟨rfl, rfl, q⟩
theorem call_is_ware_0 {x0 x1 : D} {h : Hd} {Q : QD} {X : QX} (q : S_is_ware [x0, x1] h Q X) : callD G 16 0 [x0, x1] [] h Q X := ⟨rfl, rfl, q⟩
theorem call_check_goods_0 {x0 : D} {h : Hd} {Q : QD} {X : QX} (q : S_check_goods [x0] h Q X) : callD G 17 0 [x0] [] h Q X := ⟨rfl, rfl, q⟩
theorem call_check_sum_0 {x0 : D} {h : Hd} {Q : QD} {X : QX} (q : S_check_sum [x0] h Q X) : callD G 18 0 [x0] [] h Q X := ⟨rfl, rfl, q⟩
theorem call_House_M___init___0 {x0 x1 : D} {h : Hd} {Q : QD} {X : QX} (q : S_House_M___init__ [x0, x1, .non, .int 0, .int 0] h Q X) : callD G 19 0 [x0, x1] [] h Q X := ⟨rfl, rfl, q⟩
theorem call__law_sort_0 {x0 : D} {h : Hd} {Q : QD} {X : QX} (q : S__law_sort [x0] h Q X) : callD G 204 0 [x0] [] h Q X := ⟨rfl, rfl, q⟩
theorem call__law_refused_0 {x0 x1 : D} {h : Hd} {Q : QD} {X : QX} (q : S__law_refused [x0, x1] h Q X) : callD G 205 0 [x0, x1] [] h Q X := ⟨rfl, rfl, q⟩
theorem sub_NoSum_WordError : G.sub "NoSum" "WordError" = some true := by decide +kernel
theorem sub_NoSum_NoShares : G.sub "NoSum" "NoShares" = some false := by decide +kernel
theorem sub_NoSum_NoSum : G.sub "NoSum" "NoSum" = some true := by decide +kernel
theorem sub_NoSum_NoName : G.sub "NoSum" "NoName" = some false := by decide +kernel
theorem sub_NoSum_NoText : G.sub "NoSum" "NoText" = some false := by decide +kernel
theorem sub_NoSum_NoGoods : G.sub "NoSum" "NoGoods" = some false := by decide +kernel
theorem sub_NoSum_NoPeople : G.sub "NoSum" "NoPeople" = some false := by decide +kernel
theorem sub_NoSum_NoCond : G.sub "NoSum" "NoCond" = some false := by decide +kernel
theorem sub_NoSum_NoDay : G.sub "NoSum" "NoDay" = some false := by decide +kernel
theorem sub_NoSum_NoStory : G.sub "NoSum" "NoStory" = some false := by decide +kernel
theorem sub_NoSum_NoReading : G.sub "NoSum" "NoReading" = some false := by decide +kernel
theorem sub_NoSum_NoClause : G.sub "NoSum" "NoClause" = some false := by decide +kernel
theorem sub_NoSum_NoWhom : G.sub "NoSum" "NoWhom" = some false := by decide +kernel
theorem sub_NoSum_DayStands : G.sub "NoSum" "DayStands" = some false := by decide +kernel
theorem sub_NoSum_LabelStands : G.sub "NoSum" "LabelStands" = some false := by decide +kernel
theorem sub_NoSum_NoWord : G.sub "NoSum" "NoWord" = some false := by decide +kernel
theorem sub_NoSum_NoThing : G.sub "NoSum" "NoThing" = some false := by decide +kernel
theorem sub_NoSum_NoPerson : G.sub "NoSum" "NoPerson" = some false := by decide +kernel
theorem sub_NoSum_NoRow : G.sub "NoSum" "NoRow" = some false := by decide +kernel
theorem sub_NoSum_TooMany : G.sub "NoSum" "TooMany" = some false := by decide +kernel
theorem sub_NoSum_NoUndo : G.sub "NoSum" "NoUndo" = some false := by decide +kernel
theorem sub_NoSum_NoLabel : G.sub "NoSum" "NoLabel" = some false := by decide +kernel
theorem sub_NoSum_RoomError : G.sub "NoSum" "RoomError" = some false := by decide +kernel
theorem sub_NoSum_LostError : G.sub "NoSum" "LostError" = some false := by decide +kernel
theorem subB_NoSum_ArithmeticError : G.subB "NoSum" "ArithmeticError" = some false := by decide +kernel
theorem subB_NoSum_LookupError : G.subB "NoSum" "LookupError" = some false := by decide +kernel
theorem subB_NoSum_ValueError : G.subB "NoSum" "ValueError" = some true := by decide +kernel
theorem xfl_NoSum : G.xfl "NoSum" "thing" = true := by decide +kernel
theorem sub_NoShares_WordError : G.sub "NoShares" "WordError" = some true := by decide +kernel
theorem sub_NoShares_NoShares : G.sub "NoShares" "NoShares" = some true := by decide +kernel
theorem sub_NoShares_NoSum : G.sub "NoShares" "NoSum" = some false := by decide +kernel
theorem sub_NoShares_NoName : G.sub "NoShares" "NoName" = some false := by decide +kernel
theorem sub_NoShares_NoText : G.sub "NoShares" "NoText" = some false := by decide +kernel
theorem sub_NoShares_NoGoods : G.sub "NoShares" "NoGoods" = some false := by decide +kernel
theorem sub_NoShares_NoPeople : G.sub "NoShares" "NoPeople" = some false := by decide +kernel
theorem sub_NoShares_NoCond : G.sub "NoShares" "NoCond" = some false := by decide +kernel
theorem sub_NoShares_NoDay : G.sub "NoShares" "NoDay" = some false := by decide +kernel
theorem sub_NoShares_NoStory : G.sub "NoShares" "NoStory" = some false := by decide +kernel
theorem sub_NoShares_NoReading : G.sub "NoShares" "NoReading" = some false := by decide +kernel
theorem sub_NoShares_NoClause : G.sub "NoShares" "NoClause" = some false := by decide +kernel
theorem sub_NoShares_NoWhom : G.sub "NoShares" "NoWhom" = some false := by decide +kernel
theorem sub_NoShares_DayStands : G.sub "NoShares" "DayStands" = some false := by decide +kernel
theorem sub_NoShares_LabelStands : G.sub "NoShares" "LabelStands" = some false := by decide +kernel
theorem sub_NoShares_NoWord : G.sub "NoShares" "NoWord" = some false := by decide +kernel
theorem sub_NoShares_NoThing : G.sub "NoShares" "NoThing" = some false := by decide +kernel
theorem sub_NoShares_NoPerson : G.sub "NoShares" "NoPerson" = some false := by decide +kernel
theorem sub_NoShares_NoRow : G.sub "NoShares" "NoRow" = some false := by decide +kernel
theorem sub_NoShares_TooMany : G.sub "NoShares" "TooMany" = some false := by decide +kernel
theorem sub_NoShares_NoUndo : G.sub "NoShares" "NoUndo" = some false := by decide +kernel
theorem sub_NoShares_NoLabel : G.sub "NoShares" "NoLabel" = some false := by decide +kernel
theorem sub_NoShares_RoomError : G.sub "NoShares" "RoomError" = some false := by decide +kernel
theorem sub_NoShares_LostError : G.sub "NoShares" "LostError" = some false := by decide +kernel
theorem subB_NoShares_ArithmeticError : G.subB "NoShares" "ArithmeticError" = some false := by decide +kernel
theorem subB_NoShares_LookupError : G.subB "NoShares" "LookupError" = some false := by decide +kernel
theorem subB_NoShares_ValueError : G.subB "NoShares" "ValueError" = some true := by decide +kernel
theorem sub_NoStory_WordError : G.sub "NoStory" "WordError" = some true := by decide +kernel
theorem sub_NoStory_NoShares : G.sub "NoStory" "NoShares" = some false := by decide +kernel
theorem sub_NoStory_NoSum : G.sub "NoStory" "NoSum" = some false := by decide +kernel
theorem sub_NoStory_NoName : G.sub "NoStory" "NoName" = some false := by decide +kernel
theorem sub_NoStory_NoText : G.sub "NoStory" "NoText" = some false := by decide +kernel
theorem sub_NoStory_NoGoods : G.sub "NoStory" "NoGoods" = some false := by decide +kernel
theorem sub_NoStory_NoPeople : G.sub "NoStory" "NoPeople" = some false := by decide +kernel
theorem sub_NoStory_NoCond : G.sub "NoStory" "NoCond" = some false := by decide +kernel
theorem sub_NoStory_NoDay : G.sub "NoStory" "NoDay" = some false := by decide +kernel
theorem sub_NoStory_NoStory : G.sub "NoStory" "NoStory" = some true := by decide +kernel
theorem sub_NoStory_NoReading : G.sub "NoStory" "NoReading" = some false := by decide +kernel
theorem sub_NoStory_NoClause : G.sub "NoStory" "NoClause" = some false := by decide +kernel
theorem sub_NoStory_NoWhom : G.sub "NoStory" "NoWhom" = some false := by decide +kernel
theorem sub_NoStory_DayStands : G.sub "NoStory" "DayStands" = some false := by decide +kernel
theorem sub_NoStory_LabelStands : G.sub "NoStory" "LabelStands" = some false := by decide +kernel
theorem sub_NoStory_NoWord : G.sub "NoStory" "NoWord" = some false := by decide +kernel
theorem sub_NoStory_NoThing : G.sub "NoStory" "NoThing" = some false := by decide +kernel
theorem sub_NoStory_NoPerson : G.sub "NoStory" "NoPerson" = some false := by decide +kernel
theorem sub_NoStory_NoRow : G.sub "NoStory" "NoRow" = some false := by decide +kernel
theorem sub_NoStory_TooMany : G.sub "NoStory" "TooMany" = some false := by decide +kernel
theorem sub_NoStory_NoUndo : G.sub "NoStory" "NoUndo" = some false := by decide +kernel
theorem sub_NoStory_NoLabel : G.sub "NoStory" "NoLabel" = some false := by decide +kernel
theorem sub_NoStory_RoomError : G.sub "NoStory" "RoomError" = some false := by decide +kernel
theorem sub_NoStory_LostError : G.sub "NoStory" "LostError" = some false := by decide +kernel
theorem subB_NoStory_ArithmeticError : G.subB "NoStory" "ArithmeticError" = some false := by decide +kernel
theorem subB_NoStory_LookupError : G.subB "NoStory" "LookupError" = some false := by decide +kernel
theorem subB_NoStory_ValueError : G.subB "NoStory" "ValueError" = some true := by decide +kernel
theorem xfl_NoStory : G.xfl "NoStory" "number" = true := by decide +kernel
theorem sub_NoPeople_WordError : G.sub "NoPeople" "WordError" = some true := by decide +kernel
theorem sub_NoPeople_NoShares : G.sub "NoPeople" "NoShares" = some false := by decide +kernel
theorem sub_NoPeople_NoSum : G.sub "NoPeople" "NoSum" = some false := by decide +kernel
theorem sub_NoPeople_NoName : G.sub "NoPeople" "NoName" = some false := by decide +kernel
theorem sub_NoPeople_NoText : G.sub "NoPeople" "NoText" = some false := by decide +kernel
theorem sub_NoPeople_NoGoods : G.sub "NoPeople" "NoGoods" = some false := by decide +kernel
theorem sub_NoPeople_NoPeople : G.sub "NoPeople" "NoPeople" = some true := by decide +kernel
theorem sub_NoPeople_NoCond : G.sub "NoPeople" "NoCond" = some false := by decide +kernel
theorem sub_NoPeople_NoDay : G.sub "NoPeople" "NoDay" = some false := by decide +kernel
theorem sub_NoPeople_NoStory : G.sub "NoPeople" "NoStory" = some false := by decide +kernel
theorem sub_NoPeople_NoReading : G.sub "NoPeople" "NoReading" = some false := by decide +kernel
theorem sub_NoPeople_NoClause : G.sub "NoPeople" "NoClause" = some false := by decide +kernel
theorem sub_NoPeople_NoWhom : G.sub "NoPeople" "NoWhom" = some false := by decide +kernel
theorem sub_NoPeople_DayStands : G.sub "NoPeople" "DayStands" = some false := by decide +kernel
theorem sub_NoPeople_LabelStands : G.sub "NoPeople" "LabelStands" = some false := by decide +kernel
theorem sub_NoPeople_NoWord : G.sub "NoPeople" "NoWord" = some false := by decide +kernel
theorem sub_NoPeople_NoThing : G.sub "NoPeople" "NoThing" = some false := by decide +kernel
theorem sub_NoPeople_NoPerson : G.sub "NoPeople" "NoPerson" = some false := by decide +kernel
theorem sub_NoPeople_NoRow : G.sub "NoPeople" "NoRow" = some false := by decide +kernel
theorem sub_NoPeople_TooMany : G.sub "NoPeople" "TooMany" = some false := by decide +kernel
theorem sub_NoPeople_NoUndo : G.sub "NoPeople" "NoUndo" = some false := by decide +kernel
theorem sub_NoPeople_NoLabel : G.sub "NoPeople" "NoLabel" = some false := by decide +kernel
theorem sub_NoPeople_RoomError : G.sub "NoPeople" "RoomError" = some false := by decide +kernel
theorem sub_NoPeople_LostError : G.sub "NoPeople" "LostError" = some false := by decide +kernel
theorem subB_NoPeople_ArithmeticError : G.subB "NoPeople" "ArithmeticError" = some false := by decide +kernel
theorem subB_NoPeople_LookupError : G.subB "NoPeople" "LookupError" = some false := by decide +kernel
theorem subB_NoPeople_ValueError : G.subB "NoPeople" "ValueError" = some true := by decide +kernel
theorem xfl_NoPeople : G.xfl "NoPeople" "number" = true := by decide +kernel
theorem sub_NoGoods_WordError : G.sub "NoGoods" "WordError" = some true := by decide +kernel
theorem sub_NoGoods_NoShares : G.sub "NoGoods" "NoShares" = some false := by decide +kernel
theorem sub_NoGoods_NoSum : G.sub "NoGoods" "NoSum" = some false := by decide +kernel
theorem sub_NoGoods_NoName : G.sub "NoGoods" "NoName" = some false := by decide +kernel
theorem sub_NoGoods_NoText : G.sub "NoGoods" "NoText" = some false := by decide +kernel
theorem sub_NoGoods_NoGoods : G.sub "NoGoods" "NoGoods" = some true := by decide +kernel
theorem sub_NoGoods_NoPeople : G.sub "NoGoods" "NoPeople" = some false := by decide +kernel
theorem sub_NoGoods_NoCond : G.sub "NoGoods" "NoCond" = some false := by decide +kernel
theorem sub_NoGoods_NoDay : G.sub "NoGoods" "NoDay" = some false := by decide +kernel
theorem sub_NoGoods_NoStory : G.sub "NoGoods" "NoStory" = some false := by decide +kernel
theorem sub_NoGoods_NoReading : G.sub "NoGoods" "NoReading" = some false := by decide +kernel
theorem sub_NoGoods_NoClause : G.sub "NoGoods" "NoClause" = some false := by decide +kernel
theorem sub_NoGoods_NoWhom : G.sub "NoGoods" "NoWhom" = some false := by decide +kernel
theorem sub_NoGoods_DayStands : G.sub "NoGoods" "DayStands" = some false := by decide +kernel
theorem sub_NoGoods_LabelStands : G.sub "NoGoods" "LabelStands" = some false := by decide +kernel
theorem sub_NoGoods_NoWord : G.sub "NoGoods" "NoWord" = some false := by decide +kernel
theorem sub_NoGoods_NoThing : G.sub "NoGoods" "NoThing" = some false := by decide +kernel
theorem sub_NoGoods_NoPerson : G.sub "NoGoods" "NoPerson" = some false := by decide +kernel
theorem sub_NoGoods_NoRow : G.sub "NoGoods" "NoRow" = some false := by decide +kernel
theorem sub_NoGoods_TooMany : G.sub "NoGoods" "TooMany" = some false := by decide +kernel
theorem sub_NoGoods_NoUndo : G.sub "NoGoods" "NoUndo" = some false := by decide +kernel
theorem sub_NoGoods_NoLabel : G.sub "NoGoods" "NoLabel" = some false := by decide +kernel
theorem sub_NoGoods_RoomError : G.sub "NoGoods" "RoomError" = some false := by decide +kernel
theorem sub_NoGoods_LostError : G.sub "NoGoods" "LostError" = some false := by decide +kernel
theorem subB_NoGoods_ArithmeticError : G.subB "NoGoods" "ArithmeticError" = some false := by decide +kernel
theorem subB_NoGoods_LookupError : G.subB "NoGoods" "LookupError" = some false := by decide +kernel
theorem subB_NoGoods_ValueError : G.subB "NoGoods" "ValueError" = some true := by decide +kernel
theorem xfl_NoGoods : G.xfl "NoGoods" "number" = true := by decide +kernel
theorem oc_Story : G.oc "Story" = true := by decide +kernel
theorem oc_House : G.oc "House" = true := by decide +kernel
theorem fl_House_debts : G.fl "House" "debts" = true := by decide +kernel
theorem fl_House_folk : G.fl "House" "folk" = true := by decide +kernel
theorem fl_House_purse : G.fl "House" "purse" = true := by decide +kernel
theorem fl_House_wares : G.fl "House" "wares" = true := by decide +kernel
theorem fl_Story_deaths : G.fl "Story" "deaths" = true := by decide +kernel

theorem w_divisor : Meets G N_divisor 2 b_divisor S_divisor := fun _ _ _ _ _ s => s.elim
theorem w_is_share : Meets G N_is_share 1 b_is_share S_is_share := fun _ _ _ _ _ s => s.elim
theorem w_are_shares : Meets G N_are_shares 1 b_are_shares S_are_shares := fun _ _ _ _ _ s => s.elim
theorem w_parts_by : Meets G N_parts_by 2 b_parts_by S_parts_by := fun _ _ _ _ _ s => s.elim
theorem w_split_by : Meets G N_split_by 2 b_split_by S_split_by := fun _ _ _ _ _ s => s.elim
theorem w_is_day : Meets G N_is_day 1 b_is_day S_is_day := fun _ _ _ _ _ s => s.elim
theorem w_is_sum : Meets G N_is_sum 1 b_is_sum S_is_sum := fun _ _ _ _ _ s => s.elim
theorem w_is_ware : Meets G N_is_ware 2 b_is_ware S_is_ware := fun _ _ _ _ _ s => s.elim
theorem w_check_goods : Meets G N_check_goods 1 b_check_goods S_check_goods := fun _ _ _ _ _ s => s.elim
theorem w_check_sum : Meets G N_check_sum 1 b_check_sum S_check_sum := fun _ _ _ _ _ s => s.elim
theorem w_is_whole : Meets G N_is_whole 1 b_is_whole S_is_whole := by
  rintro ds h Q Xd - ⟨i, rfl, hQ⟩
  exact hQ
theorem w_is_between : Meets G N_is_between 3 b_is_between S_is_between := by
  rintro ds h Q Xd - ⟨i, l, u, rfl, hQ⟩
  (with_reducible conv => whnf); repeat ((first | refine ite_t rfl ?_ | refine ite_f rfl ?_ | rw [atI_0] | rw [atI_1] | refine nat_ok rfl ?_ | refine len_k rfl ?_ | refine call__law_pool_0 ?_ | refine call__law_take_0 ?_ | refine call__law_drawn_0 ?_ | refine call__law_is_name_0 ?_ | refine call_is_name_0 ?_ | refine call_is_name_1 ?_ | refine call_is_whole_0 ?_ | refine call_is_between_0 ?_ | refine call_divisor_0 ?_ | refine call_is_share_0 ?_ | refine call_are_shares_0 ?_ | refine call_parts_by_0 ?_ | refine call_split_by_0 ?_ | refine call_parted_0 ?_ | refine call_is_day_0 ?_ | refine call_is_death_0 ?_ | refine call_check_deaths_0 ?_ | refine call_Story_M___init___0 ?_ | refine call_is_person_0 ?_ | refine call_check_people_0 ?_ | refine call_is_sum_0 ?_ | refine call_is_ware_0 ?_ | refine call_check_goods_0 ?_ | refine call_check_sum_0 ?_ | refine call_House_M___init___0 ?_ | refine call__law_sort_0 ?_ | refine call__law_refused_0 ?_); (with_reducible conv => whnf))
  refine ⟨i, rfl, ?_⟩
  (with_reducible conv => whnf); repeat ((first | refine ite_t rfl ?_ | refine ite_f rfl ?_ | rw [atI_0] | rw [atI_1] | refine nat_ok rfl ?_ | refine len_k rfl ?_ | refine call__law_pool_0 ?_ | refine call__law_take_0 ?_ | refine call__law_drawn_0 ?_ | refine call__law_is_name_0 ?_ | refine call_is_name_0 ?_ | refine call_is_name_1 ?_ | refine call_is_whole_0 ?_ | refine call_is_between_0 ?_ | refine call_divisor_0 ?_ | refine call_is_share_0 ?_ | refine call_are_shares_0 ?_ | refine call_parts_by_0 ?_ | refine call_split_by_0 ?_ | refine call_parted_0 ?_ | refine call_is_day_0 ?_ | refine call_is_death_0 ?_ | refine call_check_deaths_0 ?_ | refine call_Story_M___init___0 ?_ | refine call_is_person_0 ?_ | refine call_check_people_0 ?_ | refine call_is_sum_0 ?_ | refine call_is_ware_0 ?_ | refine call_check_goods_0 ?_ | refine call_check_sum_0 ?_ | refine call_House_M___init___0 ?_ | refine call__law_sort_0 ?_ | refine call__law_refused_0 ?_); (with_reducible conv => whnf))
  cases e : decide (l ≤ i) with
  | true =>
    rw [e] at hQ
    exact hQ
  | false =>
    rw [e] at hQ
    exact hQ
end K01
namespace K01
open Y
open PySem (sizeLine Str Addr)
open L2 (atI ixN)
set_option maxHeartbeats 1000000 in
theorem w__law_pool : Meets G N__law_pool 2 b__law_pool S__law_pool := by
  rintro ds h Q Xd - ⟨is, k, rfl, hk, hQ⟩
  (with_reducible conv => whnf); repeat ((first | refine ite_t rfl ?_ | refine ite_f rfl ?_ | rw [atI_0] | rw [atI_1] | refine nat_ok rfl ?_ | refine len_k rfl ?_ | refine call__law_pool_0 ?_ | refine call__law_take_0 ?_ | refine call__law_drawn_0 ?_ | refine call__law_is_name_0 ?_ | refine call_is_name_0 ?_ | refine call_is_name_1 ?_ | refine call_is_whole_0 ?_ | refine call_is_between_0 ?_ | refine call_divisor_0 ?_ | refine call_is_share_0 ?_ | refine call_are_shares_0 ?_ | refine call_parts_by_0 ?_ | refine call_split_by_0 ?_ | refine call_parted_0 ?_ | refine call_is_day_0 ?_ | refine call_is_death_0 ?_ | refine call_check_deaths_0 ?_ | refine call_Story_M___init___0 ?_ | refine call_is_person_0 ?_ | refine call_check_people_0 ?_ | refine call_is_sum_0 ?_ | refine call_is_ware_0 ?_ | refine call_check_goods_0 ?_ | refine call_check_sum_0 ?_ | refine call_House_M___init___0 ?_ | refine call__law_sort_0 ?_ | refine call__law_refused_0 ?_); (with_reducible conv => whnf))
  rw [cutD_map]
  (with_reducible conv => whnf); repeat ((first | refine ite_t rfl ?_ | refine ite_f rfl ?_ | rw [atI_0] | rw [atI_1] | refine nat_ok rfl ?_ | refine len_k rfl ?_ | refine call__law_pool_0 ?_ | refine call__law_take_0 ?_ | refine call__law_drawn_0 ?_ | refine call__law_is_name_0 ?_ | refine call_is_name_0 ?_ | refine call_is_name_1 ?_ | refine call_is_whole_0 ?_ | refine call_is_between_0 ?_ | refine call_divisor_0 ?_ | refine call_is_share_0 ?_ | refine call_are_shares_0 ?_ | refine call_parts_by_0 ?_ | refine call_split_by_0 ?_ | refine call_parted_0 ?_ | refine call_is_day_0 ?_ | refine call_is_death_0 ?_ | refine call_check_deaths_0 ?_ | refine call_Story_M___init___0 ?_ | refine call_is_person_0 ?_ | refine call_check_people_0 ?_ | refine call_is_sum_0 ?_ | refine call_is_ware_0 ?_ | refine call_check_goods_0 ?_ | refine call_check_sum_0 ?_ | refine call_House_M___init___0 ?_ | refine call__law_sort_0 ?_ | refine call__law_refused_0 ?_); (with_reducible conv => whnf))
  rw [intsOf_map]
  (with_reducible conv => whnf); repeat ((first | refine ite_t rfl ?_ | refine ite_f rfl ?_ | rw [atI_0] | rw [atI_1] | refine nat_ok rfl ?_ | refine len_k rfl ?_ | refine call__law_pool_0 ?_ | refine call__law_take_0 ?_ | refine call__law_drawn_0 ?_ | refine call__law_is_name_0 ?_ | refine call_is_name_0 ?_ | refine call_is_name_1 ?_ | refine call_is_whole_0 ?_ | refine call_is_between_0 ?_ | refine call_divisor_0 ?_ | refine call_is_share_0 ?_ | refine call_are_shares_0 ?_ | refine call_parts_by_0 ?_ | refine call_split_by_0 ?_ | refine call_parted_0 ?_ | refine call_is_day_0 ?_ | refine call_is_death_0 ?_ | refine call_check_deaths_0 ?_ | refine call_Story_M___init___0 ?_ | refine call_is_person_0 ?_ | refine call_check_people_0 ?_ | refine call_is_sum_0 ?_ | refine call_is_ware_0 ?_ | refine call_check_goods_0 ?_ | refine call_check_sum_0 ?_ | refine call_House_M___init___0 ?_ | refine call__law_sort_0 ?_ | refine call__law_refused_0 ?_); (with_reducible conv => whnf))
  generalize (cutD is (some ↑k) (some (↑k + 1))).sum = cell
  have early : wpSs G (Ss.cons (S.ret (E.lst true (Es.cons (E.op Op2.mod (E.bif Bif.abs (Es.cons (E.loc 2) Es.nil)) (E.op Op2.mul (E.op Op2.mul (E.op Op2.mul (E.op Op2.mul (E.op Op2.mul (E.op Op2.pow (E.int 10) (E.int 64)) (E.op Op2.pow (E.int 10) (E.int 64))) (E.op Op2.pow (E.int 10) (E.int 64))) (E.op Op2.pow (E.int 10) (E.int 64))) (E.op Op2.pow (E.int 10) (E.int 64))) (E.op Op2.pow (E.int 10) (E.int 64)))) Es.nil))) Ss.nil)
      (stE (startE N__law_pool [D.scr is, D.int k]) 2 (D.int cell)) h { nx := fun _ _ => False, rt := Q } (fun _ => Xd) := by
    have p : L2.CPow 10 64 := ⟨by decide, by decide, by decide⟩
    (with_reducible conv => whnf); repeat ((first | refine ite_t rfl ?_ | refine ite_f rfl ?_ | rw [atI_0] | rw [atI_1] | refine nat_ok rfl ?_ | refine len_k rfl ?_ | refine call__law_pool_0 ?_ | refine call__law_take_0 ?_ | refine call__law_drawn_0 ?_ | refine call__law_is_name_0 ?_ | refine call_is_name_0 ?_ | refine call_is_name_1 ?_ | refine call_is_whole_0 ?_ | refine call_is_between_0 ?_ | refine call_divisor_0 ?_ | refine call_is_share_0 ?_ | refine call_are_shares_0 ?_ | refine call_parts_by_0 ?_ | refine call_split_by_0 ?_ | refine call_parted_0 ?_ | refine call_is_day_0 ?_ | refine call_is_death_0 ?_ | refine call_check_deaths_0 ?_ | refine call_Story_M___init___0 ?_ | refine call_is_person_0 ?_ | refine call_check_people_0 ?_ | refine call_is_sum_0 ?_ | refine call_is_ware_0 ?_ | refine call_check_goods_0 ?_ | refine call_check_sum_0 ?_ | refine call_House_M___init___0 ?_ | refine call__law_sort_0 ?_ | refine call__law_refused_0 ?_); (with_reducible conv => whnf))
    refine ⟨p, p, mulX (by decide +kernel) (by decide +kernel), p, mulX (by decide +kernel) (by decide +kernel), p, mulX (by decide +kernel) (by decide +kernel), p, mulX (by decide +kernel) (by decide +kernel), p, mulX (by decide +kernel) (by decide +kernel), ?_⟩
    refine ⟨by decide +kernel, (by decide : 1 ≤ sizeLine), ?_⟩
    exact fun a e => hQ a _ e
  by_cases c1 : cell < 0
  · refine ite_t (decide_eq_true c1) ?_
    (with_reducible conv => whnf); repeat ((first | refine ite_t rfl ?_ | refine ite_f rfl ?_ | rw [atI_0] | rw [atI_1] | refine nat_ok rfl ?_ | refine len_k rfl ?_ | refine call__law_pool_0 ?_ | refine call__law_take_0 ?_ | refine call__law_drawn_0 ?_ | refine call__law_is_name_0 ?_ | refine call_is_name_0 ?_ | refine call_is_name_1 ?_ | refine call_is_whole_0 ?_ | refine call_is_between_0 ?_ | refine call_divisor_0 ?_ | refine call_is_share_0 ?_ | refine call_are_shares_0 ?_ | refine call_parts_by_0 ?_ | refine call_split_by_0 ?_ | refine call_parted_0 ?_ | refine call_is_day_0 ?_ | refine call_is_death_0 ?_ | refine call_check_deaths_0 ?_ | refine call_Story_M___init___0 ?_ | refine call_is_person_0 ?_ | refine call_check_people_0 ?_ | refine call_is_sum_0 ?_ | refine call_is_ware_0 ?_ | refine call_check_goods_0 ?_ | refine call_check_sum_0 ?_ | refine call_House_M___init___0 ?_ | refine call__law_sort_0 ?_ | refine call__law_refused_0 ?_); (with_reducible conv => whnf))
    exact early
  refine ite_f (decide_eq_false c1) ?_
  (with_reducible conv => whnf); repeat ((first | refine ite_t rfl ?_ | refine ite_f rfl ?_ | rw [atI_0] | rw [atI_1] | refine nat_ok rfl ?_ | refine len_k rfl ?_ | refine call__law_pool_0 ?_ | refine call__law_take_0 ?_ | refine call__law_drawn_0 ?_ | refine call__law_is_name_0 ?_ | refine call_is_name_0 ?_ | refine call_is_name_1 ?_ | refine call_is_whole_0 ?_ | refine call_is_between_0 ?_ | refine call_divisor_0 ?_ | refine call_is_share_0 ?_ | refine call_are_shares_0 ?_ | refine call_parts_by_0 ?_ | refine call_split_by_0 ?_ | refine call_parted_0 ?_ | refine call_is_day_0 ?_ | refine call_is_death_0 ?_ | refine call_check_deaths_0 ?_ | refine call_Story_M___init___0 ?_ | refine call_is_person_0 ?_ | refine call_check_people_0 ?_ | refine call_is_sum_0 ?_ | refine call_is_ware_0 ?_ | refine call_check_goods_0 ?_ | refine call_check_sum_0 ?_ | refine call_House_M___init___0 ?_ | refine call__law_sort_0 ?_ | refine call__law_refused_0 ?_); (with_reducible conv => whnf))
  refine ⟨⟨by decide, by decide, by decide⟩, ?_⟩
  by_cases c2 : 10 ^ 18 ≤ cell
  · (with_reducible conv => whnf); repeat ((first | refine ite_t rfl ?_ | refine ite_f rfl ?_ | rw [atI_0] | rw [atI_1] | refine nat_ok rfl ?_ | refine len_k rfl ?_ | refine call__law_pool_0 ?_ | refine call__law_take_0 ?_ | refine call__law_drawn_0 ?_ | refine call__law_is_name_0 ?_ | refine call_is_name_0 ?_ | refine call_is_name_1 ?_ | refine call_is_whole_0 ?_ | refine call_is_between_0 ?_ | refine call_divisor_0 ?_ | refine call_is_share_0 ?_ | refine call_are_shares_0 ?_ | refine call_parts_by_0 ?_ | refine call_split_by_0 ?_ | refine call_parted_0 ?_ | refine call_is_day_0 ?_ | refine call_is_death_0 ?_ | refine call_check_deaths_0 ?_ | refine call_Story_M___init___0 ?_ | refine call_is_person_0 ?_ | refine call_check_people_0 ?_ | refine call_is_sum_0 ?_ | refine call_is_ware_0 ?_ | refine call_check_goods_0 ?_ | refine call_check_sum_0 ?_ | refine call_House_M___init___0 ?_ | refine call__law_sort_0 ?_ | refine call__law_refused_0 ?_); (with_reducible conv => whnf))
    refine ite_t (decide_eq_true c2) ?_
    exact early
  · (with_reducible conv => whnf); repeat ((first | refine ite_t rfl ?_ | refine ite_f rfl ?_ | rw [atI_0] | rw [atI_1] | refine nat_ok rfl ?_ | refine len_k rfl ?_ | refine call__law_pool_0 ?_ | refine call__law_take_0 ?_ | refine call__law_drawn_0 ?_ | refine call__law_is_name_0 ?_ | refine call_is_name_0 ?_ | refine call_is_name_1 ?_ | refine call_is_whole_0 ?_ | refine call_is_between_0 ?_ | refine call_divisor_0 ?_ | refine call_is_share_0 ?_ | refine call_are_shares_0 ?_ | refine call_parts_by_0 ?_ | refine call_split_by_0 ?_ | refine call_parted_0 ?_ | refine call_is_day_0 ?_ | refine call_is_death_0 ?_ | refine call_check_deaths_0 ?_ | refine call_Story_M___init___0 ?_ | refine call_is_person_0 ?_ | refine call_check_people_0 ?_ | refine call_is_sum_0 ?_ | refine call_is_ware_0 ?_ | refine call_check_goods_0 ?_ | refine call_check_sum_0 ?_ | refine call_House_M___init___0 ?_ | refine call__law_sort_0 ?_ | refine call__law_refused_0 ?_); (with_reducible conv => whnf))
    refine ite_f (decide_eq_false c2) ?_
    (with_reducible conv => whnf); repeat ((first | refine ite_t rfl ?_ | refine ite_f rfl ?_ | rw [atI_0] | rw [atI_1] | refine nat_ok rfl ?_ | refine len_k rfl ?_ | refine call__law_pool_0 ?_ | refine call__law_take_0 ?_ | refine call__law_drawn_0 ?_ | refine call__law_is_name_0 ?_ | refine call_is_name_0 ?_ | refine call_is_name_1 ?_ | refine call_is_whole_0 ?_ | refine call_is_between_0 ?_ | refine call_divisor_0 ?_ | refine call_is_share_0 ?_ | refine call_are_shares_0 ?_ | refine call_parts_by_0 ?_ | refine call_split_by_0 ?_ | refine call_parted_0 ?_ | refine call_is_day_0 ?_ | refine call_is_death_0 ?_ | refine call_check_deaths_0 ?_ | refine call_Story_M___init___0 ?_ | refine call_is_person_0 ?_ | refine call_check_people_0 ?_ | refine call_is_sum_0 ?_ | refine call_is_ware_0 ?_ | refine call_check_goods_0 ?_ | refine call_check_sum_0 ?_ | refine call_House_M___init___0 ?_ | refine call__law_sort_0 ?_ | refine call__law_refused_0 ?_); (with_reducible conv => whnf))
    refine ⟨mulR64 (by decide) (by decide), ?_⟩
    (with_reducible conv => whnf); repeat ((first | refine ite_t rfl ?_ | refine ite_f rfl ?_ | rw [atI_0] | rw [atI_1] | refine nat_ok rfl ?_ | refine len_k rfl ?_ | refine call__law_pool_0 ?_ | refine call__law_take_0 ?_ | refine call__law_drawn_0 ?_ | refine call__law_is_name_0 ?_ | refine call_is_name_0 ?_ | refine call_is_name_1 ?_ | refine call_is_whole_0 ?_ | refine call_is_between_0 ?_ | refine call_divisor_0 ?_ | refine call_is_share_0 ?_ | refine call_are_shares_0 ?_ | refine call_parts_by_0 ?_ | refine call_split_by_0 ?_ | refine call_parted_0 ?_ | refine call_is_day_0 ?_ | refine call_is_death_0 ?_ | refine call_check_deaths_0 ?_ | refine call_Story_M___init___0 ?_ | refine call_is_person_0 ?_ | refine call_check_people_0 ?_ | refine call_is_sum_0 ?_ | refine call_is_ware_0 ?_ | refine call_check_goods_0 ?_ | refine call_check_sum_0 ?_ | refine call_House_M___init___0 ?_ | refine call__law_sort_0 ?_ | refine call__law_refused_0 ?_); (with_reducible conv => whnf))
    refine ⟨mulL64 (by decide) (by decide), ?_⟩
    (with_reducible conv => whnf); repeat ((first | refine ite_t rfl ?_ | refine ite_f rfl ?_ | rw [atI_0] | rw [atI_1] | refine nat_ok rfl ?_ | refine len_k rfl ?_ | refine call__law_pool_0 ?_ | refine call__law_take_0 ?_ | refine call__law_drawn_0 ?_ | refine call__law_is_name_0 ?_ | refine call_is_name_0 ?_ | refine call_is_name_1 ?_ | refine call_is_whole_0 ?_ | refine call_is_between_0 ?_ | refine call_divisor_0 ?_ | refine call_is_share_0 ?_ | refine call_are_shares_0 ?_ | refine call_parts_by_0 ?_ | refine call_split_by_0 ?_ | refine call_parted_0 ?_ | refine call_is_day_0 ?_ | refine call_is_death_0 ?_ | refine call_check_deaths_0 ?_ | refine call_Story_M___init___0 ?_ | refine call_is_person_0 ?_ | refine call_check_people_0 ?_ | refine call_is_sum_0 ?_ | refine call_is_ware_0 ?_ | refine call_check_goods_0 ?_ | refine call_check_sum_0 ?_ | refine call_House_M___init___0 ?_ | refine call__law_sort_0 ?_ | refine call__law_refused_0 ?_); (with_reducible conv => whnf))
    refine ⟨mulR64 (by omega) (by omega), ?_⟩
    (with_reducible conv => whnf); repeat ((first | refine ite_t rfl ?_ | refine ite_f rfl ?_ | rw [atI_0] | rw [atI_1] | refine nat_ok rfl ?_ | refine len_k rfl ?_ | refine call__law_pool_0 ?_ | refine call__law_take_0 ?_ | refine call__law_drawn_0 ?_ | refine call__law_is_name_0 ?_ | refine call_is_name_0 ?_ | refine call_is_name_1 ?_ | refine call_is_whole_0 ?_ | refine call_is_between_0 ?_ | refine call_divisor_0 ?_ | refine call_is_share_0 ?_ | refine call_are_shares_0 ?_ | refine call_parts_by_0 ?_ | refine call_split_by_0 ?_ | refine call_parted_0 ?_ | refine call_is_day_0 ?_ | refine call_is_death_0 ?_ | refine call_check_deaths_0 ?_ | refine call_Story_M___init___0 ?_ | refine call_is_person_0 ?_ | refine call_check_people_0 ?_ | refine call_is_sum_0 ?_ | refine call_is_ware_0 ?_ | refine call_check_goods_0 ?_ | refine call_check_sum_0 ?_ | refine call_House_M___init___0 ?_ | refine call__law_sort_0 ?_ | refine call__law_refused_0 ?_); (with_reducible conv => whnf))
    generalize (cell * 48271 + 977 * (k : Int) * k + 13) = mix
    refine ⟨by constructor <;> decide, ?_⟩
    refine loopF_keep (enc := fun i : Nat => .int (0 + (i : Int) * 1)) (l := List.range 27) (fun ρ h' => ∃ m f o, ρ = [some (.scr is), some (.int k), some (.int cell), some (.int m), some (.int f), o] ∧ h' = h) ?_ ?_ ⟨mix, 0, none, rfl, rfl⟩
    · rintro ρ h' ⟨m, f, o, rfl, rfl⟩
      (with_reducible conv => whnf); repeat ((first | refine ite_t rfl ?_ | refine ite_f rfl ?_ | rw [atI_0] | rw [atI_1] | refine nat_ok rfl ?_ | refine len_k rfl ?_ | refine call__law_pool_0 ?_ | refine call__law_take_0 ?_ | refine call__law_drawn_0 ?_ | refine call__law_is_name_0 ?_ | refine call_is_name_0 ?_ | refine call_is_name_1 ?_ | refine call_is_whole_0 ?_ | refine call_is_between_0 ?_ | refine call_divisor_0 ?_ | refine call_is_share_0 ?_ | refine call_are_shares_0 ?_ | refine call_parts_by_0 ?_ | refine call_split_by_0 ?_ | refine call_parted_0 ?_ | refine call_is_day_0 ?_ | refine call_is_death_0 ?_ | refine call_check_deaths_0 ?_ | refine call_Story_M___init___0 ?_ | refine call_is_person_0 ?_ | refine call_check_people_0 ?_ | refine call_is_sum_0 ?_ | refine call_is_ware_0 ?_ | refine call_check_goods_0 ?_ | refine call_check_sum_0 ?_ | refine call_House_M___init___0 ?_ | refine call__law_sort_0 ?_ | refine call__law_refused_0 ?_); (with_reducible conv => whnf))
      exact fun a e => hQ a _ e
    · rintro i ρ h' K hi ⟨m, f, o, rfl, rfl⟩ hK
      have hi := List.mem_range.mp hi
      (with_reducible conv => whnf); repeat ((first | refine ite_t rfl ?_ | refine ite_f rfl ?_ | rw [atI_0] | rw [atI_1] | refine nat_ok rfl ?_ | refine len_k rfl ?_ | refine call__law_pool_0 ?_ | refine call__law_take_0 ?_ | refine call__law_drawn_0 ?_ | refine call__law_is_name_0 ?_ | refine call_is_name_0 ?_ | refine call_is_name_1 ?_ | refine call_is_whole_0 ?_ | refine call_is_between_0 ?_ | refine call_divisor_0 ?_ | refine call_is_share_0 ?_ | refine call_are_shares_0 ?_ | refine call_parts_by_0 ?_ | refine call_split_by_0 ?_ | refine call_parted_0 ?_ | refine call_is_day_0 ?_ | refine call_is_death_0 ?_ | refine call_check_deaths_0 ?_ | refine call_Story_M___init___0 ?_ | refine call_is_person_0 ?_ | refine call_check_people_0 ?_ | refine call_is_sum_0 ?_ | refine call_is_ware_0 ?_ | refine call_check_goods_0 ?_ | refine call_check_sum_0 ?_ | refine call_House_M___init___0 ?_ | refine call__law_sort_0 ?_ | refine call__law_refused_0 ?_); (with_reducible conv => whnf))
      refine ⟨by decide, ?_⟩
      (with_reducible conv => whnf); repeat ((first | refine ite_t rfl ?_ | refine ite_f rfl ?_ | rw [atI_0] | rw [atI_1] | refine nat_ok rfl ?_ | refine len_k rfl ?_ | refine call__law_pool_0 ?_ | refine call__law_take_0 ?_ | refine call__law_drawn_0 ?_ | refine call__law_is_name_0 ?_ | refine call_is_name_0 ?_ | refine call_is_name_1 ?_ | refine call_is_whole_0 ?_ | refine call_is_between_0 ?_ | refine call_divisor_0 ?_ | refine call_is_share_0 ?_ | refine call_are_shares_0 ?_ | refine call_parts_by_0 ?_ | refine call_split_by_0 ?_ | refine call_parted_0 ?_ | refine call_is_day_0 ?_ | refine call_is_death_0 ?_ | refine call_check_deaths_0 ?_ | refine call_Story_M___init___0 ?_ | refine call_is_person_0 ?_ | refine call_check_people_0 ?_ | refine call_is_sum_0 ?_ | refine call_is_ware_0 ?_ | refine call_check_goods_0 ?_ | refine call_check_sum_0 ?_ | refine call_House_M___init___0 ?_ | refine call__law_sort_0 ?_ | refine call__law_refused_0 ?_); (with_reducible conv => whnf))
      refine ⟨mulR64 (by decide) (by decide), ?_⟩
      (with_reducible conv => whnf); repeat ((first | refine ite_t rfl ?_ | refine ite_f rfl ?_ | rw [atI_0] | rw [atI_1] | refine nat_ok rfl ?_ | refine len_k rfl ?_ | refine call__law_pool_0 ?_ | refine call__law_take_0 ?_ | refine call__law_drawn_0 ?_ | refine call__law_is_name_0 ?_ | refine call_is_name_0 ?_ | refine call_is_name_1 ?_ | refine call_is_whole_0 ?_ | refine call_is_between_0 ?_ | refine call_divisor_0 ?_ | refine call_is_share_0 ?_ | refine call_are_shares_0 ?_ | refine call_parts_by_0 ?_ | refine call_split_by_0 ?_ | refine call_parted_0 ?_ | refine call_is_day_0 ?_ | refine call_is_death_0 ?_ | refine call_check_deaths_0 ?_ | refine call_Story_M___init___0 ?_ | refine call_is_person_0 ?_ | refine call_check_people_0 ?_ | refine call_is_sum_0 ?_ | refine call_is_ware_0 ?_ | refine call_check_goods_0 ?_ | refine call_check_sum_0 ?_ | refine call_House_M___init___0 ?_ | refine call__law_sort_0 ?_ | refine call__law_refused_0 ?_); (with_reducible conv => whnf))
      refine ⟨mulL64 (by decide) (by decide), ?_⟩
      (with_reducible conv => whnf); repeat ((first | refine ite_t rfl ?_ | refine ite_f rfl ?_ | rw [atI_0] | rw [atI_1] | refine nat_ok rfl ?_ | refine len_k rfl ?_ | refine call__law_pool_0 ?_ | refine call__law_take_0 ?_ | refine call__law_drawn_0 ?_ | refine call__law_is_name_0 ?_ | refine call_is_name_0 ?_ | refine call_is_name_1 ?_ | refine call_is_whole_0 ?_ | refine call_is_between_0 ?_ | refine call_divisor_0 ?_ | refine call_is_share_0 ?_ | refine call_are_shares_0 ?_ | refine call_parts_by_0 ?_ | refine call_split_by_0 ?_ | refine call_parted_0 ?_ | refine call_is_day_0 ?_ | refine call_is_death_0 ?_ | refine call_check_deaths_0 ?_ | refine call_Story_M___init___0 ?_ | refine call_is_person_0 ?_ | refine call_check_people_0 ?_ | refine call_is_sum_0 ?_ | refine call_is_ware_0 ?_ | refine call_check_goods_0 ?_ | refine call_check_sum_0 ?_ | refine call_House_M___init___0 ?_ | refine call__law_sort_0 ?_ | refine call__law_refused_0 ?_); (with_reducible conv => whnf))
      refine ⟨by decide, ?_⟩
      (with_reducible conv => whnf); repeat ((first | refine ite_t rfl ?_ | refine ite_f rfl ?_ | rw [atI_0] | rw [atI_1] | refine nat_ok rfl ?_ | refine len_k rfl ?_ | refine call__law_pool_0 ?_ | refine call__law_take_0 ?_ | refine call__law_drawn_0 ?_ | refine call__law_is_name_0 ?_ | refine call_is_name_0 ?_ | refine call_is_name_1 ?_ | refine call_is_whole_0 ?_ | refine call_is_between_0 ?_ | refine call_divisor_0 ?_ | refine call_is_share_0 ?_ | refine call_are_shares_0 ?_ | refine call_parts_by_0 ?_ | refine call_split_by_0 ?_ | refine call_parted_0 ?_ | refine call_is_day_0 ?_ | refine call_is_death_0 ?_ | refine call_check_deaths_0 ?_ | refine call_Story_M___init___0 ?_ | refine call_is_person_0 ?_ | refine call_check_people_0 ?_ | refine call_is_sum_0 ?_ | refine call_is_ware_0 ?_ | refine call_check_goods_0 ?_ | refine call_check_sum_0 ?_ | refine call_House_M___init___0 ?_ | refine call__law_sort_0 ?_ | refine call__law_refused_0 ?_); (with_reducible conv => whnf))
      generalize hx : (m % 999999999989 * 69621 + 40503 * (0 + (i : Int) * 1) + 271) % 999999999989 = x
      have x1 : 0 ≤ x := by rw [← hx]; exact Int.emod_nonneg _ (by decide)
      have x2 : x < 999999999989 := by rw [← hx]; exact Int.emod_lt_of_pos _ (by decide)
      refine ⟨⟨by decide, by decide, by decide⟩, ?_⟩
      (with_reducible conv => whnf); repeat ((first | refine ite_t rfl ?_ | refine ite_f rfl ?_ | rw [atI_0] | rw [atI_1] | refine nat_ok rfl ?_ | refine len_k rfl ?_ | refine call__law_pool_0 ?_ | refine call__law_take_0 ?_ | refine call__law_drawn_0 ?_ | refine call__law_is_name_0 ?_ | refine call_is_name_0 ?_ | refine call_is_name_1 ?_ | refine call_is_whole_0 ?_ | refine call_is_between_0 ?_ | refine call_divisor_0 ?_ | refine call_is_share_0 ?_ | refine call_are_shares_0 ?_ | refine call_parts_by_0 ?_ | refine call_split_by_0 ?_ | refine call_parted_0 ?_ | refine call_is_day_0 ?_ | refine call_is_death_0 ?_ | refine call_check_deaths_0 ?_ | refine call_Story_M___init___0 ?_ | refine call_is_person_0 ?_ | refine call_check_people_0 ?_ | refine call_is_sum_0 ?_ | refine call_is_ware_0 ?_ | refine call_check_goods_0 ?_ | refine call_check_sum_0 ?_ | refine call_House_M___init___0 ?_ | refine call__law_sort_0 ?_ | refine call__law_refused_0 ?_); (with_reducible conv => whnf))
      refine ⟨mulR64 (by decide) (by decide), ?_⟩
      (with_reducible conv => whnf); repeat ((first | refine ite_t rfl ?_ | refine ite_f rfl ?_ | rw [atI_0] | rw [atI_1] | refine nat_ok rfl ?_ | refine len_k rfl ?_ | refine call__law_pool_0 ?_ | refine call__law_take_0 ?_ | refine call__law_drawn_0 ?_ | refine call__law_is_name_0 ?_ | refine call_is_name_0 ?_ | refine call_is_name_1 ?_ | refine call_is_whole_0 ?_ | refine call_is_between_0 ?_ | refine call_divisor_0 ?_ | refine call_is_share_0 ?_ | refine call_are_shares_0 ?_ | refine call_parts_by_0 ?_ | refine call_split_by_0 ?_ | refine call_parted_0 ?_ | refine call_is_day_0 ?_ | refine call_is_death_0 ?_ | refine call_check_deaths_0 ?_ | refine call_Story_M___init___0 ?_ | refine call_is_person_0 ?_ | refine call_check_people_0 ?_ | refine call_is_sum_0 ?_ | refine call_is_ware_0 ?_ | refine call_check_goods_0 ?_ | refine call_check_sum_0 ?_ | refine call_House_M___init___0 ?_ | refine call__law_sort_0 ?_ | refine call__law_refused_0 ?_); (with_reducible conv => whnf))
      refine ⟨by decide, ?_⟩
      (with_reducible conv => whnf); repeat ((first | refine ite_t rfl ?_ | refine ite_f rfl ?_ | rw [atI_0] | rw [atI_1] | refine nat_ok rfl ?_ | refine len_k rfl ?_ | refine call__law_pool_0 ?_ | refine call__law_take_0 ?_ | refine call__law_drawn_0 ?_ | refine call__law_is_name_0 ?_ | refine call_is_name_0 ?_ | refine call_is_name_1 ?_ | refine call_is_whole_0 ?_ | refine call_is_between_0 ?_ | refine call_divisor_0 ?_ | refine call_is_share_0 ?_ | refine call_are_shares_0 ?_ | refine call_parts_by_0 ?_ | refine call_split_by_0 ?_ | refine call_parted_0 ?_ | refine call_is_day_0 ?_ | refine call_is_death_0 ?_ | refine call_check_deaths_0 ?_ | refine call_Story_M___init___0 ?_ | refine call_is_person_0 ?_ | refine call_check_people_0 ?_ | refine call_is_sum_0 ?_ | refine call_is_ware_0 ?_ | refine call_check_goods_0 ?_ | refine call_check_sum_0 ?_ | refine call_House_M___init___0 ?_ | refine call__law_sort_0 ?_ | refine call__law_refused_0 ?_); (with_reducible conv => whnf))
      refine ⟨mulL64 (by omega) (by omega), ?_⟩
      (with_reducible conv => whnf); repeat ((first | refine ite_t rfl ?_ | refine ite_f rfl ?_ | rw [atI_0] | rw [atI_1] | refine nat_ok rfl ?_ | refine len_k rfl ?_ | refine call__law_pool_0 ?_ | refine call__law_take_0 ?_ | refine call__law_drawn_0 ?_ | refine call__law_is_name_0 ?_ | refine call_is_name_0 ?_ | refine call_is_name_1 ?_ | refine call_is_whole_0 ?_ | refine call_is_between_0 ?_ | refine call_divisor_0 ?_ | refine call_is_share_0 ?_ | refine call_are_shares_0 ?_ | refine call_parts_by_0 ?_ | refine call_split_by_0 ?_ | refine call_parted_0 ?_ | refine call_is_day_0 ?_ | refine call_is_death_0 ?_ | refine call_check_deaths_0 ?_ | refine call_Story_M___init___0 ?_ | refine call_is_person_0 ?_ | refine call_check_people_0 ?_ | refine call_is_sum_0 ?_ | refine call_is_ware_0 ?_ | refine call_check_goods_0 ?_ | refine call_check_sum_0 ?_ | refine call_House_M___init___0 ?_ | refine call__law_sort_0 ?_ | refine call__law_refused_0 ?_); (with_reducible conv => whnf))
      refine ⟨by decide, ?_⟩
      (with_reducible conv => whnf); repeat ((first | refine ite_t rfl ?_ | refine ite_f rfl ?_ | rw [atI_0] | rw [atI_1] | refine nat_ok rfl ?_ | refine len_k rfl ?_ | refine call__law_pool_0 ?_ | refine call__law_take_0 ?_ | refine call__law_drawn_0 ?_ | refine call__law_is_name_0 ?_ | refine call_is_name_0 ?_ | refine call_is_name_1 ?_ | refine call_is_whole_0 ?_ | refine call_is_between_0 ?_ | refine call_divisor_0 ?_ | refine call_is_share_0 ?_ | refine call_are_shares_0 ?_ | refine call_parts_by_0 ?_ | refine call_split_by_0 ?_ | refine call_parted_0 ?_ | refine call_is_day_0 ?_ | refine call_is_death_0 ?_ | refine call_check_deaths_0 ?_ | refine call_Story_M___init___0 ?_ | refine call_is_person_0 ?_ | refine call_check_people_0 ?_ | refine call_is_sum_0 ?_ | refine call_is_ware_0 ?_ | refine call_check_goods_0 ?_ | refine call_check_sum_0 ?_ | refine call_House_M___init___0 ?_ | refine call__law_sort_0 ?_ | refine call__law_refused_0 ?_); (with_reducible conv => whnf))
      exact hK _ _ ⟨_, _, _, rfl, rfl⟩

theorem w__law_take : Meets G N__law_take 2 b__law_take S__law_take := by
  rintro ds h Q Xd - ⟨a, n, m, rfl, hp, h1, h2, hQ⟩
  have hd : DivOk m := by
    refine ⟨h1, ?_⟩
    have : Nat.log2 m.natAbs < 64 := (Nat.log2_lt (by omega)).mpr (by omega)
    omega
  have g := hQ (n % m).toNat (n / m) (by have := Int.emod_nonneg n (by omega : m ≠ 0); have := Int.emod_lt_of_pos n h1; omega)
  have c : (((n % m).toNat : Nat) : Int) = n % m := by have := Int.emod_nonneg n (by omega : m ≠ 0); omega
  rw [c] at g
  (with_reducible conv => whnf); repeat ((first | refine ite_t rfl ?_ | refine ite_f rfl ?_ | rw [atI_0] | rw [atI_1] | refine nat_ok rfl ?_ | refine len_k rfl ?_ | refine call__law_pool_0 ?_ | refine call__law_take_0 ?_ | refine call__law_drawn_0 ?_ | refine call__law_is_name_0 ?_ | refine call_is_name_0 ?_ | refine call_is_name_1 ?_ | refine call_is_whole_0 ?_ | refine call_is_between_0 ?_ | refine call_divisor_0 ?_ | refine call_is_share_0 ?_ | refine call_are_shares_0 ?_ | refine call_parts_by_0 ?_ | refine call_split_by_0 ?_ | refine call_parted_0 ?_ | refine call_is_day_0 ?_ | refine call_is_death_0 ?_ | refine call_check_deaths_0 ?_ | refine call_Story_M___init___0 ?_ | refine call_is_person_0 ?_ | refine call_check_people_0 ?_ | refine call_is_sum_0 ?_ | refine call_is_ware_0 ?_ | refine call_check_goods_0 ?_ | refine call_check_sum_0 ?_ | refine call_House_M___init___0 ?_ | refine call__law_sort_0 ?_ | refine call__law_refused_0 ?_); (with_reducible conv => whnf))
  rw [seqA_ref hp]
  (with_reducible conv => whnf); repeat ((first | refine ite_t rfl ?_ | refine ite_f rfl ?_ | rw [atI_0] | rw [atI_1] | refine nat_ok rfl ?_ | refine len_k rfl ?_ | refine call__law_pool_0 ?_ | refine call__law_take_0 ?_ | refine call__law_drawn_0 ?_ | refine call__law_is_name_0 ?_ | refine call_is_name_0 ?_ | refine call_is_name_1 ?_ | refine call_is_whole_0 ?_ | refine call_is_between_0 ?_ | refine call_divisor_0 ?_ | refine call_is_share_0 ?_ | refine call_are_shares_0 ?_ | refine call_parts_by_0 ?_ | refine call_split_by_0 ?_ | refine call_parted_0 ?_ | refine call_is_day_0 ?_ | refine call_is_death_0 ?_ | refine call_check_deaths_0 ?_ | refine call_Story_M___init___0 ?_ | refine call_is_person_0 ?_ | refine call_check_people_0 ?_ | refine call_is_sum_0 ?_ | refine call_is_ware_0 ?_ | refine call_check_goods_0 ?_ | refine call_check_sum_0 ?_ | refine call_House_M___init___0 ?_ | refine call__law_sort_0 ?_ | refine call__law_refused_0 ?_); (with_reducible conv => whnf))
  refine ⟨hd, rfl, ?_⟩
  (with_reducible conv => whnf); repeat ((first | refine ite_t rfl ?_ | refine ite_f rfl ?_ | rw [atI_0] | rw [atI_1] | refine nat_ok rfl ?_ | refine len_k rfl ?_ | refine call__law_pool_0 ?_ | refine call__law_take_0 ?_ | refine call__law_drawn_0 ?_ | refine call__law_is_name_0 ?_ | refine call_is_name_0 ?_ | refine call_is_name_1 ?_ | refine call_is_whole_0 ?_ | refine call_is_between_0 ?_ | refine call_divisor_0 ?_ | refine call_is_share_0 ?_ | refine call_are_shares_0 ?_ | refine call_parts_by_0 ?_ | refine call_split_by_0 ?_ | refine call_parted_0 ?_ | refine call_is_day_0 ?_ | refine call_is_death_0 ?_ | refine call_check_deaths_0 ?_ | refine call_Story_M___init___0 ?_ | refine call_is_person_0 ?_ | refine call_check_people_0 ?_ | refine call_is_sum_0 ?_ | refine call_is_ware_0 ?_ | refine call_check_goods_0 ?_ | refine call_check_sum_0 ?_ | refine call_House_M___init___0 ?_ | refine call__law_sort_0 ?_ | refine call__law_refused_0 ?_); (with_reducible conv => whnf))
  rw [hp]
  (with_reducible conv => whnf); repeat ((first | refine ite_t rfl ?_ | refine ite_f rfl ?_ | rw [atI_0] | rw [atI_1] | refine nat_ok rfl ?_ | refine len_k rfl ?_ | refine call__law_pool_0 ?_ | refine call__law_take_0 ?_ | refine call__law_drawn_0 ?_ | refine call__law_is_name_0 ?_ | refine call_is_name_0 ?_ | refine call_is_name_1 ?_ | refine call_is_whole_0 ?_ | refine call_is_between_0 ?_ | refine call_divisor_0 ?_ | refine call_is_share_0 ?_ | refine call_are_shares_0 ?_ | refine call_parts_by_0 ?_ | refine call_split_by_0 ?_ | refine call_parted_0 ?_ | refine call_is_day_0 ?_ | refine call_is_death_0 ?_ | refine call_check_deaths_0 ?_ | refine call_Story_M___init___0 ?_ | refine call_is_person_0 ?_ | refine call_check_people_0 ?_ | refine call_is_sum_0 ?_ | refine call_is_ware_0 ?_ | refine call_check_goods_0 ?_ | refine call_check_sum_0 ?_ | refine call_House_M___init___0 ?_ | refine call__law_sort_0 ?_ | refine call__law_refused_0 ?_); (with_reducible conv => whnf))
  exact g
theorem signs (x : Str) : chs x = x.cps.toList.map fun c => D.str ⟨#[c]⟩ := rfl
theorem w_is_name : Meets G N_is_name 1 b_is_name S_is_name := by
  rintro ds h Q Xd - ⟨d, rfl, hd, hQ⟩
  cases d with
  | str x =>
    have hQ : Q (.bl (isNS x)) h := hQ
    unfold isNS at hQ
    have hd : x.length ≤ sizeLine := hd
    (with_reducible conv => whnf); repeat ((first | refine ite_t rfl ?_ | refine ite_f rfl ?_ | rw [atI_0] | rw [atI_1] | refine nat_ok rfl ?_ | refine len_k rfl ?_ | refine call__law_pool_0 ?_ | refine call__law_take_0 ?_ | refine call__law_drawn_0 ?_ | refine call__law_is_name_0 ?_ | refine call_is_name_0 ?_ | refine call_is_name_1 ?_ | refine call_is_whole_0 ?_ | refine call_is_between_0 ?_ | refine call_divisor_0 ?_ | refine call_is_share_0 ?_ | refine call_are_shares_0 ?_ | refine call_parts_by_0 ?_ | refine call_split_by_0 ?_ | refine call_parted_0 ?_ | refine call_is_day_0 ?_ | refine call_is_death_0 ?_ | refine call_check_deaths_0 ?_ | refine call_Story_M___init___0 ?_ | refine call_is_person_0 ?_ | refine call_check_people_0 ?_ | refine call_is_sum_0 ?_ | refine call_is_ware_0 ?_ | refine call_check_goods_0 ?_ | refine call_check_sum_0 ?_ | refine call_House_M___init___0 ?_ | refine call__law_sort_0 ?_ | refine call__law_refused_0 ?_); (with_reducible conv => whnf))
    refine ⟨hd, ?_⟩
    (with_reducible conv => whnf); repeat ((first | refine ite_t rfl ?_ | refine ite_f rfl ?_ | rw [atI_0] | rw [atI_1] | refine nat_ok rfl ?_ | refine len_k rfl ?_ | refine call__law_pool_0 ?_ | refine call__law_take_0 ?_ | refine call__law_drawn_0 ?_ | refine call__law_is_name_0 ?_ | refine call_is_name_0 ?_ | refine call_is_name_1 ?_ | refine call_is_whole_0 ?_ | refine call_is_between_0 ?_ | refine call_divisor_0 ?_ | refine call_is_share_0 ?_ | refine call_are_shares_0 ?_ | refine call_parts_by_0 ?_ | refine call_split_by_0 ?_ | refine call_parted_0 ?_ | refine call_is_day_0 ?_ | refine call_is_death_0 ?_ | refine call_check_deaths_0 ?_ | refine call_Story_M___init___0 ?_ | refine call_is_person_0 ?_ | refine call_check_people_0 ?_ | refine call_is_sum_0 ?_ | refine call_is_ware_0 ?_ | refine call_check_goods_0 ?_ | refine call_check_sum_0 ?_ | refine call_House_M___init___0 ?_ | refine call__law_sort_0 ?_ | refine call__law_refused_0 ?_); (with_reducible conv => whnf))
    refine ite_b (fun c1 => ?_) (fun c1 => ?_)
    · rw [c1] at hQ
      (with_reducible conv => whnf); repeat ((first | refine ite_t rfl ?_ | refine ite_f rfl ?_ | rw [atI_0] | rw [atI_1] | refine nat_ok rfl ?_ | refine len_k rfl ?_ | refine call__law_pool_0 ?_ | refine call__law_take_0 ?_ | refine call__law_drawn_0 ?_ | refine call__law_is_name_0 ?_ | refine call_is_name_0 ?_ | refine call_is_name_1 ?_ | refine call_is_whole_0 ?_ | refine call_is_between_0 ?_ | refine call_divisor_0 ?_ | refine call_is_share_0 ?_ | refine call_are_shares_0 ?_ | refine call_parts_by_0 ?_ | refine call_split_by_0 ?_ | refine call_parted_0 ?_ | refine call_is_day_0 ?_ | refine call_is_death_0 ?_ | refine call_check_deaths_0 ?_ | refine call_Story_M___init___0 ?_ | refine call_is_person_0 ?_ | refine call_check_people_0 ?_ | refine call_is_sum_0 ?_ | refine call_is_ware_0 ?_ | refine call_check_goods_0 ?_ | refine call_check_sum_0 ?_ | refine call_House_M___init___0 ?_ | refine call__law_sort_0 ?_ | refine call__law_refused_0 ?_); (with_reducible conv => whnf))
      refine ite_b (fun c2 => ?_) (fun c2 => ?_)
      · rw [not_t c2] at hQ
        exact hQ
      · rw [not_f c2] at hQ
        (with_reducible conv => whnf); repeat ((first | refine ite_t rfl ?_ | refine ite_f rfl ?_ | rw [atI_0] | rw [atI_1] | refine nat_ok rfl ?_ | refine len_k rfl ?_ | refine call__law_pool_0 ?_ | refine call__law_take_0 ?_ | refine call__law_drawn_0 ?_ | refine call__law_is_name_0 ?_ | refine call_is_name_0 ?_ | refine call_is_name_1 ?_ | refine call_is_whole_0 ?_ | refine call_is_between_0 ?_ | refine call_divisor_0 ?_ | refine call_is_share_0 ?_ | refine call_are_shares_0 ?_ | refine call_parts_by_0 ?_ | refine call_split_by_0 ?_ | refine call_parted_0 ?_ | refine call_is_day_0 ?_ | refine call_is_death_0 ?_ | refine call_check_deaths_0 ?_ | refine call_Story_M___init___0 ?_ | refine call_is_person_0 ?_ | refine call_check_people_0 ?_ | refine call_is_sum_0 ?_ | refine call_is_ware_0 ?_ | refine call_check_goods_0 ?_ | refine call_check_sum_0 ?_ | refine call_House_M___init___0 ?_ | refine call__law_sort_0 ?_ | refine call__law_refused_0 ?_); (with_reducible conv => whnf))
        refine ⟨rfl, rfl, ?_⟩
        refine ite_b (fun c3 => ?_) (fun c3 => ?_)
        · rw [show inD (.str x) wordD = true from c3] at hQ
          exact hQ
        · rw [show inD (.str x) wordD = false from c3] at hQ
          (with_reducible conv => whnf); repeat ((first | refine ite_t rfl ?_ | refine ite_f rfl ?_ | rw [atI_0] | rw [atI_1] | refine nat_ok rfl ?_ | refine len_k rfl ?_ | refine call__law_pool_0 ?_ | refine call__law_take_0 ?_ | refine call__law_drawn_0 ?_ | refine call__law_is_name_0 ?_ | refine call_is_name_0 ?_ | refine call_is_name_1 ?_ | refine call_is_whole_0 ?_ | refine call_is_between_0 ?_ | refine call_divisor_0 ?_ | refine call_is_share_0 ?_ | refine call_are_shares_0 ?_ | refine call_parts_by_0 ?_ | refine call_split_by_0 ?_ | refine call_parted_0 ?_ | refine call_is_day_0 ?_ | refine call_is_death_0 ?_ | refine call_check_deaths_0 ?_ | refine call_Story_M___init___0 ?_ | refine call_is_person_0 ?_ | refine call_check_people_0 ?_ | refine call_is_sum_0 ?_ | refine call_is_ware_0 ?_ | refine call_check_goods_0 ?_ | refine call_check_sum_0 ?_ | refine call_House_M___init___0 ?_ | refine call__law_sort_0 ?_ | refine call__law_refused_0 ?_); (with_reducible conv => whnf))
          intro A hA
          refine loopC_map (enc := fun c => .str ⟨#[c]⟩) (fun c => .bl (hasS ⟨#[c]⟩ letS)) ?_ (fun c hc K k => ?_) ?_
          · show x.cps.toList.length ≤ sizeLine
            exact hd
          · (with_reducible conv => whnf); repeat ((first | refine ite_t rfl ?_ | refine ite_f rfl ?_ | rw [atI_0] | rw [atI_1] | refine nat_ok rfl ?_ | refine len_k rfl ?_ | refine call__law_pool_0 ?_ | refine call__law_take_0 ?_ | refine call__law_drawn_0 ?_ | refine call__law_is_name_0 ?_ | refine call_is_name_0 ?_ | refine call_is_name_1 ?_ | refine call_is_whole_0 ?_ | refine call_is_between_0 ?_ | refine call_divisor_0 ?_ | refine call_is_share_0 ?_ | refine call_are_shares_0 ?_ | refine call_parts_by_0 ?_ | refine call_split_by_0 ?_ | refine call_parted_0 ?_ | refine call_is_day_0 ?_ | refine call_is_death_0 ?_ | refine call_check_deaths_0 ?_ | refine call_Story_M___init___0 ?_ | refine call_is_person_0 ?_ | refine call_check_people_0 ?_ | refine call_is_sum_0 ?_ | refine call_is_ware_0 ?_ | refine call_check_goods_0 ?_ | refine call_check_sum_0 ?_ | refine call_House_M___init___0 ?_ | refine call__law_sort_0 ?_ | refine call__law_refused_0 ?_); (with_reducible conv => whnf))
            exact k
          · (with_reducible conv => whnf); repeat ((first | refine ite_t rfl ?_ | refine ite_f rfl ?_ | rw [atI_0] | rw [atI_1] | refine nat_ok rfl ?_ | refine len_k rfl ?_ | refine call__law_pool_0 ?_ | refine call__law_take_0 ?_ | refine call__law_drawn_0 ?_ | refine call__law_is_name_0 ?_ | refine call_is_name_0 ?_ | refine call_is_name_1 ?_ | refine call_is_whole_0 ?_ | refine call_is_between_0 ?_ | refine call_divisor_0 ?_ | refine call_is_share_0 ?_ | refine call_are_shares_0 ?_ | refine call_parts_by_0 ?_ | refine call_split_by_0 ?_ | refine call_parted_0 ?_ | refine call_is_day_0 ?_ | refine call_is_death_0 ?_ | refine call_check_deaths_0 ?_ | refine call_Story_M___init___0 ?_ | refine call_is_person_0 ?_ | refine call_check_people_0 ?_ | refine call_is_sum_0 ?_ | refine call_is_ware_0 ?_ | refine call_check_goods_0 ?_ | refine call_check_sum_0 ?_ | refine call_House_M___init___0 ?_ | refine call__law_sort_0 ?_ | refine call__law_refused_0 ?_); (with_reducible conv => whnf))
            rw [blsOf_fun]
            (with_reducible conv => whnf); repeat ((first | refine ite_t rfl ?_ | refine ite_f rfl ?_ | rw [atI_0] | rw [atI_1] | refine nat_ok rfl ?_ | refine len_k rfl ?_ | refine call__law_pool_0 ?_ | refine call__law_take_0 ?_ | refine call__law_drawn_0 ?_ | refine call__law_is_name_0 ?_ | refine call_is_name_0 ?_ | refine call_is_name_1 ?_ | refine call_is_whole_0 ?_ | refine call_is_between_0 ?_ | refine call_divisor_0 ?_ | refine call_is_share_0 ?_ | refine call_are_shares_0 ?_ | refine call_parts_by_0 ?_ | refine call_split_by_0 ?_ | refine call_parted_0 ?_ | refine call_is_day_0 ?_ | refine call_is_death_0 ?_ | refine call_check_deaths_0 ?_ | refine call_Story_M___init___0 ?_ | refine call_is_person_0 ?_ | refine call_check_people_0 ?_ | refine call_is_sum_0 ?_ | refine call_is_ware_0 ?_ | refine call_check_goods_0 ?_ | refine call_check_sum_0 ?_ | refine call_House_M___init___0 ?_ | refine call__law_sort_0 ?_ | refine call__law_refused_0 ?_); (with_reducible conv => whnf))
            rw [hdel_hupd hA]
            exact hQ
    · rw [c1] at hQ
      (with_reducible conv => whnf); repeat ((first | refine ite_t rfl ?_ | refine ite_f rfl ?_ | rw [atI_0] | rw [atI_1] | refine nat_ok rfl ?_ | refine len_k rfl ?_ | refine call__law_pool_0 ?_ | refine call__law_take_0 ?_ | refine call__law_drawn_0 ?_ | refine call__law_is_name_0 ?_ | refine call_is_name_0 ?_ | refine call_is_name_1 ?_ | refine call_is_whole_0 ?_ | refine call_is_between_0 ?_ | refine call_divisor_0 ?_ | refine call_is_share_0 ?_ | refine call_are_shares_0 ?_ | refine call_parts_by_0 ?_ | refine call_split_by_0 ?_ | refine call_parted_0 ?_ | refine call_is_day_0 ?_ | refine call_is_death_0 ?_ | refine call_check_deaths_0 ?_ | refine call_Story_M___init___0 ?_ | refine call_is_person_0 ?_ | refine call_check_people_0 ?_ | refine call_is_sum_0 ?_ | refine call_is_ware_0 ?_ | refine call_check_goods_0 ?_ | refine call_check_sum_0 ?_ | refine call_House_M___init___0 ?_ | refine call__law_sort_0 ?_ | refine call__law_refused_0 ?_); (with_reducible conv => whnf))
      exact hQ
  | ref _ => exact hd.elim
  | scr _ => exact hd.elim
  | ins _ _ _ => exact hd.elim
  | exc _ _ _ => exact hd.elim
  | _ => exact hQ
theorem w__law_is_name : Meets G N__law_is_name 1 b__law_is_name S__law_is_name := by
  rintro ds h Q Xd - ⟨d, rfl, hd, hQ⟩
  cases d with
  | str x =>
    have hQ : Q (.bl (isNS x)) h := hQ
    unfold isNS at hQ
    have hd : x.length ≤ sizeLine := hd
    (with_reducible conv => whnf); repeat ((first | refine ite_t rfl ?_ | refine ite_f rfl ?_ | rw [atI_0] | rw [atI_1] | refine nat_ok rfl ?_ | refine len_k rfl ?_ | refine call__law_pool_0 ?_ | refine call__law_take_0 ?_ | refine call__law_drawn_0 ?_ | refine call__law_is_name_0 ?_ | refine call_is_name_0 ?_ | refine call_is_name_1 ?_ | refine call_is_whole_0 ?_ | refine call_is_between_0 ?_ | refine call_divisor_0 ?_ | refine call_is_share_0 ?_ | refine call_are_shares_0 ?_ | refine call_parts_by_0 ?_ | refine call_split_by_0 ?_ | refine call_parted_0 ?_ | refine call_is_day_0 ?_ | refine call_is_death_0 ?_ | refine call_check_deaths_0 ?_ | refine call_Story_M___init___0 ?_ | refine call_is_person_0 ?_ | refine call_check_people_0 ?_ | refine call_is_sum_0 ?_ | refine call_is_ware_0 ?_ | refine call_check_goods_0 ?_ | refine call_check_sum_0 ?_ | refine call_House_M___init___0 ?_ | refine call__law_sort_0 ?_ | refine call__law_refused_0 ?_); (with_reducible conv => whnf))
    refine ⟨hd, ?_⟩
    (with_reducible conv => whnf); repeat ((first | refine ite_t rfl ?_ | refine ite_f rfl ?_ | rw [atI_0] | rw [atI_1] | refine nat_ok rfl ?_ | refine len_k rfl ?_ | refine call__law_pool_0 ?_ | refine call__law_take_0 ?_ | refine call__law_drawn_0 ?_ | refine call__law_is_name_0 ?_ | refine call_is_name_0 ?_ | refine call_is_name_1 ?_ | refine call_is_whole_0 ?_ | refine call_is_between_0 ?_ | refine call_divisor_0 ?_ | refine call_is_share_0 ?_ | refine call_are_shares_0 ?_ | refine call_parts_by_0 ?_ | refine call_split_by_0 ?_ | refine call_parted_0 ?_ | refine call_is_day_0 ?_ | refine call_is_death_0 ?_ | refine call_check_deaths_0 ?_ | refine call_Story_M___init___0 ?_ | refine call_is_person_0 ?_ | refine call_check_people_0 ?_ | refine call_is_sum_0 ?_ | refine call_is_ware_0 ?_ | refine call_check_goods_0 ?_ | refine call_check_sum_0 ?_ | refine call_House_M___init___0 ?_ | refine call__law_sort_0 ?_ | refine call__law_refused_0 ?_); (with_reducible conv => whnf))
    refine ite_b (fun c1 => ?_) (fun c1 => ?_)
    · rw [c1] at hQ
      (with_reducible conv => whnf); repeat ((first | refine ite_t rfl ?_ | refine ite_f rfl ?_ | rw [atI_0] | rw [atI_1] | refine nat_ok rfl ?_ | refine len_k rfl ?_ | refine call__law_pool_0 ?_ | refine call__law_take_0 ?_ | refine call__law_drawn_0 ?_ | refine call__law_is_name_0 ?_ | refine call_is_name_0 ?_ | refine call_is_name_1 ?_ | refine call_is_whole_0 ?_ | refine call_is_between_0 ?_ | refine call_divisor_0 ?_ | refine call_is_share_0 ?_ | refine call_are_shares_0 ?_ | refine call_parts_by_0 ?_ | refine call_split_by_0 ?_ | refine call_parted_0 ?_ | refine call_is_day_0 ?_ | refine call_is_death_0 ?_ | refine call_check_deaths_0 ?_ | refine call_Story_M___init___0 ?_ | refine call_is_person_0 ?_ | refine call_check_people_0 ?_ | refine call_is_sum_0 ?_ | refine call_is_ware_0 ?_ | refine call_check_goods_0 ?_ | refine call_check_sum_0 ?_ | refine call_House_M___init___0 ?_ | refine call__law_sort_0 ?_ | refine call__law_refused_0 ?_); (with_reducible conv => whnf))
      refine ite_b (fun c2 => ?_) (fun c2 => ?_)
      · rw [not_t c2] at hQ
        exact hQ
      · rw [not_f c2] at hQ
        (with_reducible conv => whnf); repeat ((first | refine ite_t rfl ?_ | refine ite_f rfl ?_ | rw [atI_0] | rw [atI_1] | refine nat_ok rfl ?_ | refine len_k rfl ?_ | refine call__law_pool_0 ?_ | refine call__law_take_0 ?_ | refine call__law_drawn_0 ?_ | refine call__law_is_name_0 ?_ | refine call_is_name_0 ?_ | refine call_is_name_1 ?_ | refine call_is_whole_0 ?_ | refine call_is_between_0 ?_ | refine call_divisor_0 ?_ | refine call_is_share_0 ?_ | refine call_are_shares_0 ?_ | refine call_parts_by_0 ?_ | refine call_split_by_0 ?_ | refine call_parted_0 ?_ | refine call_is_day_0 ?_ | refine call_is_death_0 ?_ | refine call_check_deaths_0 ?_ | refine call_Story_M___init___0 ?_ | refine call_is_person_0 ?_ | refine call_check_people_0 ?_ | refine call_is_sum_0 ?_ | refine call_is_ware_0 ?_ | refine call_check_goods_0 ?_ | refine call_check_sum_0 ?_ | refine call_House_M___init___0 ?_ | refine call__law_sort_0 ?_ | refine call__law_refused_0 ?_); (with_reducible conv => whnf))
        refine ⟨rfl, rfl, ?_⟩
        refine ite_b (fun c3 => ?_) (fun c3 => ?_)
        · rw [show inD (.str x) wordD = true from c3] at hQ
          exact hQ
        · rw [show inD (.str x) wordD = false from c3] at hQ
          (with_reducible conv => whnf); repeat ((first | refine ite_t rfl ?_ | refine ite_f rfl ?_ | rw [atI_0] | rw [atI_1] | refine nat_ok rfl ?_ | refine len_k rfl ?_ | refine call__law_pool_0 ?_ | refine call__law_take_0 ?_ | refine call__law_drawn_0 ?_ | refine call__law_is_name_0 ?_ | refine call_is_name_0 ?_ | refine call_is_name_1 ?_ | refine call_is_whole_0 ?_ | refine call_is_between_0 ?_ | refine call_divisor_0 ?_ | refine call_is_share_0 ?_ | refine call_are_shares_0 ?_ | refine call_parts_by_0 ?_ | refine call_split_by_0 ?_ | refine call_parted_0 ?_ | refine call_is_day_0 ?_ | refine call_is_death_0 ?_ | refine call_check_deaths_0 ?_ | refine call_Story_M___init___0 ?_ | refine call_is_person_0 ?_ | refine call_check_people_0 ?_ | refine call_is_sum_0 ?_ | refine call_is_ware_0 ?_ | refine call_check_goods_0 ?_ | refine call_check_sum_0 ?_ | refine call_House_M___init___0 ?_ | refine call__law_sort_0 ?_ | refine call__law_refused_0 ?_); (with_reducible conv => whnf))
          intro A hA
          refine loopC_map (enc := fun c => .str ⟨#[c]⟩) (fun c => .bl (hasS ⟨#[c]⟩ letS)) ?_ (fun c hc K k => ?_) ?_
          · show x.cps.toList.length ≤ sizeLine
            exact hd
          · (with_reducible conv => whnf); repeat ((first | refine ite_t rfl ?_ | refine ite_f rfl ?_ | rw [atI_0] | rw [atI_1] | refine nat_ok rfl ?_ | refine len_k rfl ?_ | refine call__law_pool_0 ?_ | refine call__law_take_0 ?_ | refine call__law_drawn_0 ?_ | refine call__law_is_name_0 ?_ | refine call_is_name_0 ?_ | refine call_is_name_1 ?_ | refine call_is_whole_0 ?_ | refine call_is_between_0 ?_ | refine call_divisor_0 ?_ | refine call_is_share_0 ?_ | refine call_are_shares_0 ?_ | refine call_parts_by_0 ?_ | refine call_split_by_0 ?_ | refine call_parted_0 ?_ | refine call_is_day_0 ?_ | refine call_is_death_0 ?_ | refine call_check_deaths_0 ?_ | refine call_Story_M___init___0 ?_ | refine call_is_person_0 ?_ | refine call_check_people_0 ?_ | refine call_is_sum_0 ?_ | refine call_is_ware_0 ?_ | refine call_check_goods_0 ?_ | refine call_check_sum_0 ?_ | refine call_House_M___init___0 ?_ | refine call__law_sort_0 ?_ | refine call__law_refused_0 ?_); (with_reducible conv => whnf))
            exact k
          · (with_reducible conv => whnf); repeat ((first | refine ite_t rfl ?_ | refine ite_f rfl ?_ | rw [atI_0] | rw [atI_1] | refine nat_ok rfl ?_ | refine len_k rfl ?_ | refine call__law_pool_0 ?_ | refine call__law_take_0 ?_ | refine call__law_drawn_0 ?_ | refine call__law_is_name_0 ?_ | refine call_is_name_0 ?_ | refine call_is_name_1 ?_ | refine call_is_whole_0 ?_ | refine call_is_between_0 ?_ | refine call_divisor_0 ?_ | refine call_is_share_0 ?_ | refine call_are_shares_0 ?_ | refine call_parts_by_0 ?_ | refine call_split_by_0 ?_ | refine call_parted_0 ?_ | refine call_is_day_0 ?_ | refine call_is_death_0 ?_ | refine call_check_deaths_0 ?_ | refine call_Story_M___init___0 ?_ | refine call_is_person_0 ?_ | refine call_check_people_0 ?_ | refine call_is_sum_0 ?_ | refine call_is_ware_0 ?_ | refine call_check_goods_0 ?_ | refine call_check_sum_0 ?_ | refine call_House_M___init___0 ?_ | refine call__law_sort_0 ?_ | refine call__law_refused_0 ?_); (with_reducible conv => whnf))
            rw [blsOf_fun]
            (with_reducible conv => whnf); repeat ((first | refine ite_t rfl ?_ | refine ite_f rfl ?_ | rw [atI_0] | rw [atI_1] | refine nat_ok rfl ?_ | refine len_k rfl ?_ | refine call__law_pool_0 ?_ | refine call__law_take_0 ?_ | refine call__law_drawn_0 ?_ | refine call__law_is_name_0 ?_ | refine call_is_name_0 ?_ | refine call_is_name_1 ?_ | refine call_is_whole_0 ?_ | refine call_is_between_0 ?_ | refine call_divisor_0 ?_ | refine call_is_share_0 ?_ | refine call_are_shares_0 ?_ | refine call_parts_by_0 ?_ | refine call_split_by_0 ?_ | refine call_parted_0 ?_ | refine call_is_day_0 ?_ | refine call_is_death_0 ?_ | refine call_check_deaths_0 ?_ | refine call_Story_M___init___0 ?_ | refine call_is_person_0 ?_ | refine call_check_people_0 ?_ | refine call_is_sum_0 ?_ | refine call_is_ware_0 ?_ | refine call_check_goods_0 ?_ | refine call_check_sum_0 ?_ | refine call_House_M___init___0 ?_ | refine call__law_sort_0 ?_ | refine call__law_refused_0 ?_); (with_reducible conv => whnf))
            rw [hdel_hupd hA]
            exact hQ
    · rw [c1] at hQ
      (with_reducible conv => whnf); repeat ((first | refine ite_t rfl ?_ | refine ite_f rfl ?_ | rw [atI_0] | rw [atI_1] | refine nat_ok rfl ?_ | refine len_k rfl ?_ | refine call__law_pool_0 ?_ | refine call__law_take_0 ?_ | refine call__law_drawn_0 ?_ | refine call__law_is_name_0 ?_ | refine call_is_name_0 ?_ | refine call_is_name_1 ?_ | refine call_is_whole_0 ?_ | refine call_is_between_0 ?_ | refine call_divisor_0 ?_ | refine call_is_share_0 ?_ | refine call_are_shares_0 ?_ | refine call_parts_by_0 ?_ | refine call_split_by_0 ?_ | refine call_parted_0 ?_ | refine call_is_day_0 ?_ | refine call_is_death_0 ?_ | refine call_check_deaths_0 ?_ | refine call_Story_M___init___0 ?_ | refine call_is_person_0 ?_ | refine call_check_people_0 ?_ | refine call_is_sum_0 ?_ | refine call_is_ware_0 ?_ | refine call_check_goods_0 ?_ | refine call_check_sum_0 ?_ | refine call_House_M___init___0 ?_ | refine call__law_sort_0 ?_ | refine call__law_refused_0 ?_); (with_reducible conv => whnf))
      exact hQ
  | ref _ => exact hd.elim
  | scr _ => exact hd.elim
  | ins _ _ _ => exact hd.elim
  | exc _ _ _ => exact hd.elim
  | _ =>
    (with_reducible conv => whnf); repeat ((first | refine ite_t rfl ?_ | refine ite_f rfl ?_ | rw [atI_0] | rw [atI_1] | refine nat_ok rfl ?_ | refine len_k rfl ?_ | refine call__law_pool_0 ?_ | refine call__law_take_0 ?_ | refine call__law_drawn_0 ?_ | refine call__law_is_name_0 ?_ | refine call_is_name_0 ?_ | refine call_is_name_1 ?_ | refine call_is_whole_0 ?_ | refine call_is_between_0 ?_ | refine call_divisor_0 ?_ | refine call_is_share_0 ?_ | refine call_are_shares_0 ?_ | refine call_parts_by_0 ?_ | refine call_split_by_0 ?_ | refine call_parted_0 ?_ | refine call_is_day_0 ?_ | refine call_is_death_0 ?_ | refine call_check_deaths_0 ?_ | refine call_Story_M___init___0 ?_ | refine call_is_person_0 ?_ | refine call_check_people_0 ?_ | refine call_is_sum_0 ?_ | refine call_is_ware_0 ?_ | refine call_check_goods_0 ?_ | refine call_check_sum_0 ?_ | refine call_House_M___init___0 ?_ | refine call__law_sort_0 ?_ | refine call__law_refused_0 ?_); (with_reducible conv => whnf))
    exact hQ
end K01
namespace K01
open Y
open PySem (sizeLine Str Addr)
open L2 (atI ixN)
theorem w_parted : Meets G N_parted 2 b_parted S_parted := by
  rintro ds h Q Xd - ⟨d, rfl, hX⟩
  (with_reducible conv => whnf); repeat ((first | refine ite_t rfl ?_ | refine ite_f rfl ?_ | rw [atI_0] | rw [atI_1] | refine nat_ok rfl ?_ | refine len_k rfl ?_ | refine call__law_pool_0 ?_ | refine call__law_take_0 ?_ | refine call__law_drawn_0 ?_ | refine call__law_is_name_0 ?_ | refine call_is_name_0 ?_ | refine call_is_name_1 ?_ | refine call_is_whole_0 ?_ | refine call_is_between_0 ?_ | refine call_divisor_0 ?_ | refine call_is_share_0 ?_ | refine call_are_shares_0 ?_ | refine call_parts_by_0 ?_ | refine call_split_by_0 ?_ | refine call_parted_0 ?_ | refine call_is_day_0 ?_ | refine call_is_death_0 ?_ | refine call_check_deaths_0 ?_ | refine call_Story_M___init___0 ?_ | refine call_is_person_0 ?_ | refine call_check_people_0 ?_ | refine call_is_sum_0 ?_ | refine call_is_ware_0 ?_ | refine call_check_goods_0 ?_ | refine call_check_sum_0 ?_ | refine call_House_M___init___0 ?_ | refine call__law_sort_0 ?_ | refine call__law_refused_0 ?_); (with_reducible conv => whnf))
  refine ⟨-1, 0, 1000000000000, rfl, ?_⟩
  (with_reducible conv => whnf); repeat ((first | refine ite_t rfl ?_ | refine ite_f rfl ?_ | rw [atI_0] | rw [atI_1] | refine nat_ok rfl ?_ | refine len_k rfl ?_ | refine call__law_pool_0 ?_ | refine call__law_take_0 ?_ | refine call__law_drawn_0 ?_ | refine call__law_is_name_0 ?_ | refine call_is_name_0 ?_ | refine call_is_name_1 ?_ | refine call_is_whole_0 ?_ | refine call_is_between_0 ?_ | refine call_divisor_0 ?_ | refine call_is_share_0 ?_ | refine call_are_shares_0 ?_ | refine call_parts_by_0 ?_ | refine call_split_by_0 ?_ | refine call_parted_0 ?_ | refine call_is_day_0 ?_ | refine call_is_death_0 ?_ | refine call_check_deaths_0 ?_ | refine call_Story_M___init___0 ?_ | refine call_is_person_0 ?_ | refine call_check_people_0 ?_ | refine call_is_sum_0 ?_ | refine call_is_ware_0 ?_ | refine call_check_goods_0 ?_ | refine call_check_sum_0 ?_ | refine call_House_M___init___0 ?_ | refine call__law_sort_0 ?_ | refine call__law_refused_0 ?_); (with_reducible conv => whnf))
  exact hX
theorem w_is_death : Meets G N_is_death 1 b_is_death S_is_death := by
  rintro ds h Q Xd - ⟨d, e, rfl, ⟨hd, hn⟩, hQ⟩
  (with_reducible conv => whnf); repeat ((first | refine ite_t rfl ?_ | refine ite_f rfl ?_ | rw [atI_0] | rw [atI_1] | refine nat_ok rfl ?_ | refine len_k rfl ?_ | refine call__law_pool_0 ?_ | refine call__law_take_0 ?_ | refine call__law_drawn_0 ?_ | refine call__law_is_name_0 ?_ | refine call_is_name_0 ?_ | refine call_is_name_1 ?_ | refine call_is_whole_0 ?_ | refine call_is_between_0 ?_ | refine call_divisor_0 ?_ | refine call_is_share_0 ?_ | refine call_are_shares_0 ?_ | refine call_parts_by_0 ?_ | refine call_split_by_0 ?_ | refine call_parted_0 ?_ | refine call_is_day_0 ?_ | refine call_is_death_0 ?_ | refine call_check_deaths_0 ?_ | refine call_Story_M___init___0 ?_ | refine call_is_person_0 ?_ | refine call_check_people_0 ?_ | refine call_is_sum_0 ?_ | refine call_is_ware_0 ?_ | refine call_check_goods_0 ?_ | refine call_check_sum_0 ?_ | refine call_House_M___init___0 ?_ | refine call__law_sort_0 ?_ | refine call__law_refused_0 ?_); (with_reducible conv => whnf))
  refine ⟨d, rfl, hd, ?_⟩
  rw [hn]
  (with_reducible conv => whnf); repeat ((first | refine ite_t rfl ?_ | refine ite_f rfl ?_ | rw [atI_0] | rw [atI_1] | refine nat_ok rfl ?_ | refine len_k rfl ?_ | refine call__law_pool_0 ?_ | refine call__law_take_0 ?_ | refine call__law_drawn_0 ?_ | refine call__law_is_name_0 ?_ | refine call_is_name_0 ?_ | refine call_is_name_1 ?_ | refine call_is_whole_0 ?_ | refine call_is_between_0 ?_ | refine call_divisor_0 ?_ | refine call_is_share_0 ?_ | refine call_are_shares_0 ?_ | refine call_parts_by_0 ?_ | refine call_split_by_0 ?_ | refine call_parted_0 ?_ | refine call_is_day_0 ?_ | refine call_is_death_0 ?_ | refine call_check_deaths_0 ?_ | refine call_Story_M___init___0 ?_ | refine call_is_person_0 ?_ | refine call_check_people_0 ?_ | refine call_is_sum_0 ?_ | refine call_is_ware_0 ?_ | refine call_check_goods_0 ?_ | refine call_check_sum_0 ?_ | refine call_House_M___init___0 ?_ | refine call__law_sort_0 ?_ | refine call__law_refused_0 ?_); (with_reducible conv => whnf))
  exact hQ
theorem w_check_deaths : Meets G N_check_deaths 1 b_check_deaths S_check_deaths := by
  rintro ds h Q Xd - ⟨d, e, rfl, hb, hX⟩
  (with_reducible conv => whnf); repeat ((first | refine ite_t rfl ?_ | refine ite_f rfl ?_ | rw [atI_0] | rw [atI_1] | refine nat_ok rfl ?_ | refine len_k rfl ?_ | refine loopC_n ?_ | refine loopC_c ?_ | refine loopF_n ?_ | refine loopF_c ?_ | refine call__law_pool_0 ?_ | refine call__law_take_0 ?_ | refine call__law_drawn_0 ?_ | refine call__law_is_name_0 ?_ | refine call_is_name_0 ?_ | refine call_is_name_1 ?_ | refine call_is_whole_0 ?_ | refine call_is_between_0 ?_ | refine call_divisor_0 ?_ | refine call_is_share_0 ?_ | refine call_are_shares_0 ?_ | refine call_parts_by_0 ?_ | refine call_split_by_0 ?_ | refine call_parted_0 ?_ | refine call_is_day_0 ?_ | refine call_is_death_0 ?_ | refine call_check_deaths_0 ?_ | refine call_Story_M___init___0 ?_ | refine call_is_person_0 ?_ | refine call_check_people_0 ?_ | refine call_is_sum_0 ?_ | refine call_is_ware_0 ?_ | refine call_check_goods_0 ?_ | refine call_check_sum_0 ?_ | refine call_House_M___init___0 ?_ | refine call__law_sort_0 ?_ | refine call__law_refused_0 ?_); (with_reducible conv => whnf))
  refine ⟨d, e, rfl, hb, ?_⟩
  (with_reducible conv => whnf); repeat ((first | refine ite_t rfl ?_ | refine ite_f rfl ?_ | rw [atI_0] | rw [atI_1] | refine nat_ok rfl ?_ | refine len_k rfl ?_ | refine call__law_pool_0 ?_ | refine call__law_take_0 ?_ | refine call__law_drawn_0 ?_ | refine call__law_is_name_0 ?_ | refine call_is_name_0 ?_ | refine call_is_name_1 ?_ | refine call_is_whole_0 ?_ | refine call_is_between_0 ?_ | refine call_divisor_0 ?_ | refine call_is_share_0 ?_ | refine call_are_shares_0 ?_ | refine call_parts_by_0 ?_ | refine call_split_by_0 ?_ | refine call_parted_0 ?_ | refine call_is_day_0 ?_ | refine call_is_death_0 ?_ | refine call_check_deaths_0 ?_ | refine call_Story_M___init___0 ?_ | refine call_is_person_0 ?_ | refine call_check_people_0 ?_ | refine call_is_sum_0 ?_ | refine call_is_ware_0 ?_ | refine call_check_goods_0 ?_ | refine call_check_sum_0 ?_ | refine call_House_M___init___0 ?_ | refine call__law_sort_0 ?_ | refine call__law_refused_0 ?_); (with_reducible conv => whnf))
  exact hX
theorem w_Story_M___init__ : Meets G N_Story_M___init__ 2 b_Story_M___init__ S_Story_M___init__ := by
  rintro ds h Q Xd - ⟨a, d, e, rfl, hb, hX⟩
  (with_reducible conv => whnf); repeat ((first | refine ite_t rfl ?_ | refine ite_f rfl ?_ | rw [atI_0] | rw [atI_1] | refine nat_ok rfl ?_ | refine len_k rfl ?_ | refine call__law_pool_0 ?_ | refine call__law_take_0 ?_ | refine call__law_drawn_0 ?_ | refine call__law_is_name_0 ?_ | refine call_is_name_0 ?_ | refine call_is_name_1 ?_ | refine call_is_whole_0 ?_ | refine call_is_between_0 ?_ | refine call_divisor_0 ?_ | refine call_is_share_0 ?_ | refine call_are_shares_0 ?_ | refine call_parts_by_0 ?_ | refine call_split_by_0 ?_ | refine call_parted_0 ?_ | refine call_is_day_0 ?_ | refine call_is_death_0 ?_ | refine call_check_deaths_0 ?_ | refine call_Story_M___init___0 ?_ | refine call_is_person_0 ?_ | refine call_check_people_0 ?_ | refine call_is_sum_0 ?_ | refine call_is_ware_0 ?_ | refine call_check_goods_0 ?_ | refine call_check_sum_0 ?_ | refine call_House_M___init___0 ?_ | refine call__law_sort_0 ?_ | refine call__law_refused_0 ?_); (with_reducible conv => whnf))
  refine ⟨d, e, rfl, hb, hX⟩
theorem w_is_person : Meets G N_is_person 2 b_is_person S_is_person := by
  rintro ds h Q Xd - ⟨d, e, a, rfl, ⟨hd, hn⟩, hQ⟩
  (with_reducible conv => whnf); repeat ((first | refine ite_t rfl ?_ | refine ite_f rfl ?_ | rw [atI_0] | rw [atI_1] | refine nat_ok rfl ?_ | refine len_k rfl ?_ | refine call__law_pool_0 ?_ | refine call__law_take_0 ?_ | refine call__law_drawn_0 ?_ | refine call__law_is_name_0 ?_ | refine call_is_name_0 ?_ | refine call_is_name_1 ?_ | refine call_is_whole_0 ?_ | refine call_is_between_0 ?_ | refine call_divisor_0 ?_ | refine call_is_share_0 ?_ | refine call_are_shares_0 ?_ | refine call_parts_by_0 ?_ | refine call_split_by_0 ?_ | refine call_parted_0 ?_ | refine call_is_day_0 ?_ | refine call_is_death_0 ?_ | refine call_check_deaths_0 ?_ | refine call_Story_M___init___0 ?_ | refine call_is_person_0 ?_ | refine call_check_people_0 ?_ | refine call_is_sum_0 ?_ | refine call_is_ware_0 ?_ | refine call_check_goods_0 ?_ | refine call_check_sum_0 ?_ | refine call_House_M___init___0 ?_ | refine call__law_sort_0 ?_ | refine call__law_refused_0 ?_); (with_reducible conv => whnf))
  refine ⟨d, rfl, hd, ?_⟩
  rw [hn]
  (with_reducible conv => whnf); repeat ((first | refine ite_t rfl ?_ | refine ite_f rfl ?_ | rw [atI_0] | rw [atI_1] | refine nat_ok rfl ?_ | refine len_k rfl ?_ | refine call__law_pool_0 ?_ | refine call__law_take_0 ?_ | refine call__law_drawn_0 ?_ | refine call__law_is_name_0 ?_ | refine call_is_name_0 ?_ | refine call_is_name_1 ?_ | refine call_is_whole_0 ?_ | refine call_is_between_0 ?_ | refine call_divisor_0 ?_ | refine call_is_share_0 ?_ | refine call_are_shares_0 ?_ | refine call_parts_by_0 ?_ | refine call_split_by_0 ?_ | refine call_parted_0 ?_ | refine call_is_day_0 ?_ | refine call_is_death_0 ?_ | refine call_check_deaths_0 ?_ | refine call_Story_M___init___0 ?_ | refine call_is_person_0 ?_ | refine call_check_people_0 ?_ | refine call_is_sum_0 ?_ | refine call_is_ware_0 ?_ | refine call_check_goods_0 ?_ | refine call_check_sum_0 ?_ | refine call_House_M___init___0 ?_ | refine call__law_sort_0 ?_ | refine call__law_refused_0 ?_); (with_reducible conv => whnf))
  exact hQ
theorem w_check_people : Meets G N_check_people 1 b_check_people S_check_people := by
  rintro ds h Q Xd - ⟨d, e, rfl, hb, hX⟩
  (with_reducible conv => whnf); repeat ((first | refine ite_t rfl ?_ | refine ite_f rfl ?_ | rw [atI_0] | rw [atI_1] | refine nat_ok rfl ?_ | refine len_k rfl ?_ | refine call__law_pool_0 ?_ | refine call__law_take_0 ?_ | refine call__law_drawn_0 ?_ | refine call__law_is_name_0 ?_ | refine call_is_name_0 ?_ | refine call_is_name_1 ?_ | refine call_is_whole_0 ?_ | refine call_is_between_0 ?_ | refine call_divisor_0 ?_ | refine call_is_share_0 ?_ | refine call_are_shares_0 ?_ | refine call_parts_by_0 ?_ | refine call_split_by_0 ?_ | refine call_parted_0 ?_ | refine call_is_day_0 ?_ | refine call_is_death_0 ?_ | refine call_check_deaths_0 ?_ | refine call_Story_M___init___0 ?_ | refine call_is_person_0 ?_ | refine call_check_people_0 ?_ | refine call_is_sum_0 ?_ | refine call_is_ware_0 ?_ | refine call_check_goods_0 ?_ | refine call_check_sum_0 ?_ | refine call_House_M___init___0 ?_ | refine call__law_sort_0 ?_ | refine call__law_refused_0 ?_); (with_reducible conv => whnf))
  intro a ha
  (with_reducible conv => whnf); repeat ((first | refine ite_t rfl ?_ | refine ite_f rfl ?_ | rw [atI_0] | rw [atI_1] | refine nat_ok rfl ?_ | refine len_k rfl ?_ | refine loopC_n ?_ | refine loopC_c ?_ | refine loopF_n ?_ | refine loopF_c ?_ | refine call__law_pool_0 ?_ | refine call__law_take_0 ?_ | refine call__law_drawn_0 ?_ | refine call__law_is_name_0 ?_ | refine call_is_name_0 ?_ | refine call_is_name_1 ?_ | refine call_is_whole_0 ?_ | refine call_is_between_0 ?_ | refine call_divisor_0 ?_ | refine call_is_share_0 ?_ | refine call_are_shares_0 ?_ | refine call_parts_by_0 ?_ | refine call_split_by_0 ?_ | refine call_parted_0 ?_ | refine call_is_day_0 ?_ | refine call_is_death_0 ?_ | refine call_check_deaths_0 ?_ | refine call_Story_M___init___0 ?_ | refine call_is_person_0 ?_ | refine call_check_people_0 ?_ | refine call_is_sum_0 ?_ | refine call_is_ware_0 ?_ | refine call_check_goods_0 ?_ | refine call_check_sum_0 ?_ | refine call_House_M___init___0 ?_ | refine call__law_sort_0 ?_ | refine call__law_refused_0 ?_); (with_reducible conv => whnf))
  refine ⟨d, e, _, rfl, hb, ?_⟩
  (with_reducible conv => whnf); repeat ((first | refine ite_t rfl ?_ | refine ite_f rfl ?_ | rw [atI_0] | rw [atI_1] | refine nat_ok rfl ?_ | refine len_k rfl ?_ | refine call__law_pool_0 ?_ | refine call__law_take_0 ?_ | refine call__law_drawn_0 ?_ | refine call__law_is_name_0 ?_ | refine call_is_name_0 ?_ | refine call_is_name_1 ?_ | refine call_is_whole_0 ?_ | refine call_is_between_0 ?_ | refine call_divisor_0 ?_ | refine call_is_share_0 ?_ | refine call_are_shares_0 ?_ | refine call_parts_by_0 ?_ | refine call_split_by_0 ?_ | refine call_parted_0 ?_ | refine call_is_day_0 ?_ | refine call_is_death_0 ?_ | refine call_check_deaths_0 ?_ | refine call_Story_M___init___0 ?_ | refine call_is_person_0 ?_ | refine call_check_people_0 ?_ | refine call_is_sum_0 ?_ | refine call_is_ware_0 ?_ | refine call_check_goods_0 ?_ | refine call_check_sum_0 ?_ | refine call_House_M___init___0 ?_ | refine call__law_sort_0 ?_ | refine call__law_refused_0 ?_); (with_reducible conv => whnf))
  exact hX _ (.new ha)
theorem w_House_M___init__ : Meets G N_House_M___init__ 5 b_House_M___init__ S_House_M___init__ := by
  rintro ds h Q Xd - ⟨a, d, e, rfl, hb, hX⟩
  (with_reducible conv => whnf); repeat ((first | refine ite_t rfl ?_ | refine ite_f rfl ?_ | rw [atI_0] | rw [atI_1] | refine nat_ok rfl ?_ | refine len_k rfl ?_ | refine call__law_pool_0 ?_ | refine call__law_take_0 ?_ | refine call__law_drawn_0 ?_ | refine call__law_is_name_0 ?_ | refine call_is_name_0 ?_ | refine call_is_name_1 ?_ | refine call_is_whole_0 ?_ | refine call_is_between_0 ?_ | refine call_divisor_0 ?_ | refine call_is_share_0 ?_ | refine call_are_shares_0 ?_ | refine call_parts_by_0 ?_ | refine call_split_by_0 ?_ | refine call_parted_0 ?_ | refine call_is_day_0 ?_ | refine call_is_death_0 ?_ | refine call_check_deaths_0 ?_ | refine call_Story_M___init___0 ?_ | refine call_is_person_0 ?_ | refine call_check_people_0 ?_ | refine call_is_sum_0 ?_ | refine call_is_ware_0 ?_ | refine call_check_goods_0 ?_ | refine call_check_sum_0 ?_ | refine call_House_M___init___0 ?_ | refine call__law_sort_0 ?_ | refine call__law_refused_0 ?_); (with_reducible conv => whnf))
  refine ⟨d, e, rfl, hb, hX⟩
end K01
namespace K01
open Y
open PySem (sizeLine Str Addr)
open L2 (atI ixN)
theorem sort_NoSum {f : Str} {d : D} {h : Hd} {Q : QD} {Xd : QX} (hQ : Q (.str "sum") h) : wpSs G b__law_sort (startE N__law_sort [.exc "NoSum" [f] [d]]) h { nx := fun _ h' => Q .non h', rt := Q } (fun _ => Xd) := by
  refine seq_c fun K hK => ?_
  (with_reducible conv => whnf)
  repeat ((first | simp only [sub_NoSum_WordError, sub_NoSum_NoShares, sub_NoSum_NoSum, sub_NoSum_NoName, sub_NoSum_NoText, sub_NoSum_NoGoods, sub_NoSum_NoPeople, sub_NoSum_NoCond, sub_NoSum_NoDay, sub_NoSum_NoStory, sub_NoSum_NoReading, sub_NoSum_NoClause, sub_NoSum_NoWhom, sub_NoSum_DayStands, sub_NoSum_LabelStands, sub_NoSum_NoWord, sub_NoSum_NoThing, sub_NoSum_NoPerson, sub_NoSum_NoRow, sub_NoSum_TooMany, sub_NoSum_NoUndo, sub_NoSum_NoLabel, sub_NoSum_RoomError, sub_NoSum_LostError, subB_NoSum_ArithmeticError, subB_NoSum_LookupError, subB_NoSum_ValueError] | refine ⟨(by decide), ?_⟩ | refine ⟨⟨_, rfl⟩, ?_⟩ | refine ite_f (by decide) ?_); (with_reducible conv => whnf))
  refine hK _ _ ?_
  clear hK K
  refine seq_c fun K hK => ?_
  (with_reducible conv => whnf)
  repeat ((first | simp only [sub_NoSum_WordError, sub_NoSum_NoShares, sub_NoSum_NoSum, sub_NoSum_NoName, sub_NoSum_NoText, sub_NoSum_NoGoods, sub_NoSum_NoPeople, sub_NoSum_NoCond, sub_NoSum_NoDay, sub_NoSum_NoStory, sub_NoSum_NoReading, sub_NoSum_NoClause, sub_NoSum_NoWhom, sub_NoSum_DayStands, sub_NoSum_LabelStands, sub_NoSum_NoWord, sub_NoSum_NoThing, sub_NoSum_NoPerson, sub_NoSum_NoRow, sub_NoSum_TooMany, sub_NoSum_NoUndo, sub_NoSum_NoLabel, sub_NoSum_RoomError, sub_NoSum_LostError, subB_NoSum_ArithmeticError, subB_NoSum_LookupError, subB_NoSum_ValueError] | refine ⟨(by decide), ?_⟩ | refine ⟨⟨_, rfl⟩, ?_⟩ | refine ite_f (by decide) ?_); (with_reducible conv => whnf))
  refine hK _ _ ?_
  clear hK K
  refine seq_c fun K hK => ?_
  (with_reducible conv => whnf)
  repeat ((first | simp only [sub_NoSum_WordError, sub_NoSum_NoShares, sub_NoSum_NoSum, sub_NoSum_NoName, sub_NoSum_NoText, sub_NoSum_NoGoods, sub_NoSum_NoPeople, sub_NoSum_NoCond, sub_NoSum_NoDay, sub_NoSum_NoStory, sub_NoSum_NoReading, sub_NoSum_NoClause, sub_NoSum_NoWhom, sub_NoSum_DayStands, sub_NoSum_LabelStands, sub_NoSum_NoWord, sub_NoSum_NoThing, sub_NoSum_NoPerson, sub_NoSum_NoRow, sub_NoSum_TooMany, sub_NoSum_NoUndo, sub_NoSum_NoLabel, sub_NoSum_RoomError, sub_NoSum_LostError, subB_NoSum_ArithmeticError, subB_NoSum_LookupError, subB_NoSum_ValueError] | refine ⟨(by decide), ?_⟩ | refine ⟨⟨_, rfl⟩, ?_⟩ | refine ite_f (by decide) ?_); (with_reducible conv => whnf))
  refine hK _ _ ?_
  clear hK K
  refine seq_c fun K hK => ?_
  (with_reducible conv => whnf)
  repeat ((first | simp only [sub_NoSum_WordError, sub_NoSum_NoShares, sub_NoSum_NoSum, sub_NoSum_NoName, sub_NoSum_NoText, sub_NoSum_NoGoods, sub_NoSum_NoPeople, sub_NoSum_NoCond, sub_NoSum_NoDay, sub_NoSum_NoStory, sub_NoSum_NoReading, sub_NoSum_NoClause, sub_NoSum_NoWhom, sub_NoSum_DayStands, sub_NoSum_LabelStands, sub_NoSum_NoWord, sub_NoSum_NoThing, sub_NoSum_NoPerson, sub_NoSum_NoRow, sub_NoSum_TooMany, sub_NoSum_NoUndo, sub_NoSum_NoLabel, sub_NoSum_RoomError, sub_NoSum_LostError, subB_NoSum_ArithmeticError, subB_NoSum_LookupError, subB_NoSum_ValueError] | refine ⟨(by decide), ?_⟩ | refine ⟨⟨_, rfl⟩, ?_⟩ | refine ite_f (by decide) ?_); (with_reducible conv => whnf))
  refine hK _ _ ?_
  clear hK K
  refine seq_c fun K hK => ?_
  (with_reducible conv => whnf)
  repeat ((first | simp only [sub_NoSum_WordError, sub_NoSum_NoShares, sub_NoSum_NoSum, sub_NoSum_NoName, sub_NoSum_NoText, sub_NoSum_NoGoods, sub_NoSum_NoPeople, sub_NoSum_NoCond, sub_NoSum_NoDay, sub_NoSum_NoStory, sub_NoSum_NoReading, sub_NoSum_NoClause, sub_NoSum_NoWhom, sub_NoSum_DayStands, sub_NoSum_LabelStands, sub_NoSum_NoWord, sub_NoSum_NoThing, sub_NoSum_NoPerson, sub_NoSum_NoRow, sub_NoSum_TooMany, sub_NoSum_NoUndo, sub_NoSum_NoLabel, sub_NoSum_RoomError, sub_NoSum_LostError, subB_NoSum_ArithmeticError, subB_NoSum_LookupError, subB_NoSum_ValueError] | refine ⟨(by decide), ?_⟩ | refine ⟨⟨_, rfl⟩, ?_⟩ | refine ite_f (by decide) ?_); (with_reducible conv => whnf))
  refine hK _ _ ?_
  clear hK K
  refine seq_c fun K hK => ?_
  (with_reducible conv => whnf)
  repeat ((first | simp only [sub_NoSum_WordError, sub_NoSum_NoShares, sub_NoSum_NoSum, sub_NoSum_NoName, sub_NoSum_NoText, sub_NoSum_NoGoods, sub_NoSum_NoPeople, sub_NoSum_NoCond, sub_NoSum_NoDay, sub_NoSum_NoStory, sub_NoSum_NoReading, sub_NoSum_NoClause, sub_NoSum_NoWhom, sub_NoSum_DayStands, sub_NoSum_LabelStands, sub_NoSum_NoWord, sub_NoSum_NoThing, sub_NoSum_NoPerson, sub_NoSum_NoRow, sub_NoSum_TooMany, sub_NoSum_NoUndo, sub_NoSum_NoLabel, sub_NoSum_RoomError, sub_NoSum_LostError, subB_NoSum_ArithmeticError, subB_NoSum_LookupError, subB_NoSum_ValueError] | refine ⟨(by decide), ?_⟩ | refine ⟨⟨_, rfl⟩, ?_⟩ | refine ite_f (by decide) ?_); (with_reducible conv => whnf))
  refine hK _ _ ?_
  clear hK K
  refine seq_c fun K hK => ?_
  (with_reducible conv => whnf)
  repeat ((first | simp only [sub_NoSum_WordError, sub_NoSum_NoShares, sub_NoSum_NoSum, sub_NoSum_NoName, sub_NoSum_NoText, sub_NoSum_NoGoods, sub_NoSum_NoPeople, sub_NoSum_NoCond, sub_NoSum_NoDay, sub_NoSum_NoStory, sub_NoSum_NoReading, sub_NoSum_NoClause, sub_NoSum_NoWhom, sub_NoSum_DayStands, sub_NoSum_LabelStands, sub_NoSum_NoWord, sub_NoSum_NoThing, sub_NoSum_NoPerson, sub_NoSum_NoRow, sub_NoSum_TooMany, sub_NoSum_NoUndo, sub_NoSum_NoLabel, sub_NoSum_RoomError, sub_NoSum_LostError, subB_NoSum_ArithmeticError, subB_NoSum_LookupError, subB_NoSum_ValueError] | refine ⟨(by decide), ?_⟩ | refine ⟨⟨_, rfl⟩, ?_⟩ | refine ite_f (by decide) ?_); (with_reducible conv => whnf))
  refine hK _ _ ?_
  clear hK K
  refine seq_c fun K hK => ?_
  (with_reducible conv => whnf)
  repeat ((first | simp only [sub_NoSum_WordError, sub_NoSum_NoShares, sub_NoSum_NoSum, sub_NoSum_NoName, sub_NoSum_NoText, sub_NoSum_NoGoods, sub_NoSum_NoPeople, sub_NoSum_NoCond, sub_NoSum_NoDay, sub_NoSum_NoStory, sub_NoSum_NoReading, sub_NoSum_NoClause, sub_NoSum_NoWhom, sub_NoSum_DayStands, sub_NoSum_LabelStands, sub_NoSum_NoWord, sub_NoSum_NoThing, sub_NoSum_NoPerson, sub_NoSum_NoRow, sub_NoSum_TooMany, sub_NoSum_NoUndo, sub_NoSum_NoLabel, sub_NoSum_RoomError, sub_NoSum_LostError, subB_NoSum_ArithmeticError, subB_NoSum_LookupError, subB_NoSum_ValueError] | refine ⟨(by decide), ?_⟩ | refine ⟨⟨_, rfl⟩, ?_⟩ | refine ite_f (by decide) ?_); (with_reducible conv => whnf))
  refine hK _ _ ?_
  clear hK K
  refine seq_c fun K hK => ?_
  (with_reducible conv => whnf)
  repeat ((first | simp only [sub_NoSum_WordError, sub_NoSum_NoShares, sub_NoSum_NoSum, sub_NoSum_NoName, sub_NoSum_NoText, sub_NoSum_NoGoods, sub_NoSum_NoPeople, sub_NoSum_NoCond, sub_NoSum_NoDay, sub_NoSum_NoStory, sub_NoSum_NoReading, sub_NoSum_NoClause, sub_NoSum_NoWhom, sub_NoSum_DayStands, sub_NoSum_LabelStands, sub_NoSum_NoWord, sub_NoSum_NoThing, sub_NoSum_NoPerson, sub_NoSum_NoRow, sub_NoSum_TooMany, sub_NoSum_NoUndo, sub_NoSum_NoLabel, sub_NoSum_RoomError, sub_NoSum_LostError, subB_NoSum_ArithmeticError, subB_NoSum_LookupError, subB_NoSum_ValueError] | refine ⟨(by decide), ?_⟩ | refine ⟨⟨_, rfl⟩, ?_⟩ | refine ite_f (by decide) ?_); (with_reducible conv => whnf))
  refine hK _ _ ?_
  clear hK K
  refine seq_c fun K hK => ?_
  (with_reducible conv => whnf)
  repeat ((first | simp only [sub_NoSum_WordError, sub_NoSum_NoShares, sub_NoSum_NoSum, sub_NoSum_NoName, sub_NoSum_NoText, sub_NoSum_NoGoods, sub_NoSum_NoPeople, sub_NoSum_NoCond, sub_NoSum_NoDay, sub_NoSum_NoStory, sub_NoSum_NoReading, sub_NoSum_NoClause, sub_NoSum_NoWhom, sub_NoSum_DayStands, sub_NoSum_LabelStands, sub_NoSum_NoWord, sub_NoSum_NoThing, sub_NoSum_NoPerson, sub_NoSum_NoRow, sub_NoSum_TooMany, sub_NoSum_NoUndo, sub_NoSum_NoLabel, sub_NoSum_RoomError, sub_NoSum_LostError, subB_NoSum_ArithmeticError, subB_NoSum_LookupError, subB_NoSum_ValueError] | refine ⟨(by decide), ?_⟩ | refine ⟨⟨_, rfl⟩, ?_⟩ | refine ite_f (by decide) ?_); (with_reducible conv => whnf))
  refine hK _ _ ?_
  clear hK K
  refine seq_c fun K hK => ?_
  (with_reducible conv => whnf)
  repeat ((first | simp only [sub_NoSum_WordError, sub_NoSum_NoShares, sub_NoSum_NoSum, sub_NoSum_NoName, sub_NoSum_NoText, sub_NoSum_NoGoods, sub_NoSum_NoPeople, sub_NoSum_NoCond, sub_NoSum_NoDay, sub_NoSum_NoStory, sub_NoSum_NoReading, sub_NoSum_NoClause, sub_NoSum_NoWhom, sub_NoSum_DayStands, sub_NoSum_LabelStands, sub_NoSum_NoWord, sub_NoSum_NoThing, sub_NoSum_NoPerson, sub_NoSum_NoRow, sub_NoSum_TooMany, sub_NoSum_NoUndo, sub_NoSum_NoLabel, sub_NoSum_RoomError, sub_NoSum_LostError, subB_NoSum_ArithmeticError, subB_NoSum_LookupError, subB_NoSum_ValueError] | refine ⟨(by decide), ?_⟩ | refine ⟨⟨_, rfl⟩, ?_⟩ | refine ite_f (by decide) ?_); (with_reducible conv => whnf))
  refine hK _ _ ?_
  clear hK K
  refine seq_c fun K hK => ?_
  (with_reducible conv => whnf)
  repeat ((first | simp only [sub_NoSum_WordError, sub_NoSum_NoShares, sub_NoSum_NoSum, sub_NoSum_NoName, sub_NoSum_NoText, sub_NoSum_NoGoods, sub_NoSum_NoPeople, sub_NoSum_NoCond, sub_NoSum_NoDay, sub_NoSum_NoStory, sub_NoSum_NoReading, sub_NoSum_NoClause, sub_NoSum_NoWhom, sub_NoSum_DayStands, sub_NoSum_LabelStands, sub_NoSum_NoWord, sub_NoSum_NoThing, sub_NoSum_NoPerson, sub_NoSum_NoRow, sub_NoSum_TooMany, sub_NoSum_NoUndo, sub_NoSum_NoLabel, sub_NoSum_RoomError, sub_NoSum_LostError, subB_NoSum_ArithmeticError, subB_NoSum_LookupError, subB_NoSum_ValueError] | refine ⟨(by decide), ?_⟩ | refine ⟨⟨_, rfl⟩, ?_⟩ | refine ite_f (by decide) ?_); (with_reducible conv => whnf))
  refine hK _ _ ?_
  clear hK K
  refine seq_c fun K hK => ?_
  (with_reducible conv => whnf)
  repeat ((first | simp only [sub_NoSum_WordError, sub_NoSum_NoShares, sub_NoSum_NoSum, sub_NoSum_NoName, sub_NoSum_NoText, sub_NoSum_NoGoods, sub_NoSum_NoPeople, sub_NoSum_NoCond, sub_NoSum_NoDay, sub_NoSum_NoStory, sub_NoSum_NoReading, sub_NoSum_NoClause, sub_NoSum_NoWhom, sub_NoSum_DayStands, sub_NoSum_LabelStands, sub_NoSum_NoWord, sub_NoSum_NoThing, sub_NoSum_NoPerson, sub_NoSum_NoRow, sub_NoSum_TooMany, sub_NoSum_NoUndo, sub_NoSum_NoLabel, sub_NoSum_RoomError, sub_NoSum_LostError, subB_NoSum_ArithmeticError, subB_NoSum_LookupError, subB_NoSum_ValueError] | refine ⟨(by decide), ?_⟩ | refine ⟨⟨_, rfl⟩, ?_⟩ | refine ite_f (by decide) ?_); (with_reducible conv => whnf))
  refine hK _ _ ?_
  clear hK K
  refine seq_c fun K hK => ?_
  (with_reducible conv => whnf)
  repeat ((first | simp only [sub_NoSum_WordError, sub_NoSum_NoShares, sub_NoSum_NoSum, sub_NoSum_NoName, sub_NoSum_NoText, sub_NoSum_NoGoods, sub_NoSum_NoPeople, sub_NoSum_NoCond, sub_NoSum_NoDay, sub_NoSum_NoStory, sub_NoSum_NoReading, sub_NoSum_NoClause, sub_NoSum_NoWhom, sub_NoSum_DayStands, sub_NoSum_LabelStands, sub_NoSum_NoWord, sub_NoSum_NoThing, sub_NoSum_NoPerson, sub_NoSum_NoRow, sub_NoSum_TooMany, sub_NoSum_NoUndo, sub_NoSum_NoLabel, sub_NoSum_RoomError, sub_NoSum_LostError, subB_NoSum_ArithmeticError, subB_NoSum_LookupError, subB_NoSum_ValueError] | refine ⟨(by decide), ?_⟩ | refine ⟨⟨_, rfl⟩, ?_⟩ | refine ite_f (by decide) ?_); (with_reducible conv => whnf))
  refine hK _ _ ?_
  clear hK K
  (with_reducible conv => whnf)
  conv in atI _ _ => change some (D.str "sum")
  (with_reducible conv => whnf)
  refine ⟨(by decide), ?_⟩
  (with_reducible conv => whnf)
  refine deepEq_b (b := true) (by kernel_rfl) ?_
  (with_reducible conv => whnf)
  refine ite_f rfl ?_
  (with_reducible conv => whnf)
  refine deepEq_b (b := true) (by kernel_rfl) ?_
  (with_reducible conv => whnf)
  exact hQ
theorem sort_NoStory {f : Str} {d : D} {h : Hd} {Q : QD} {Xd : QX} (hQ : Q (.str "story") h) : wpSs G b__law_sort (startE N__law_sort [.exc "NoStory" [f] [d]]) h { nx := fun _ h' => Q .non h', rt := Q } (fun _ => Xd) := by
  refine seq_c fun K hK => ?_
  (with_reducible conv => whnf)
  repeat ((first | simp only [sub_NoStory_WordError, sub_NoStory_NoShares, sub_NoStory_NoSum, sub_NoStory_NoName, sub_NoStory_NoText, sub_NoStory_NoGoods, sub_NoStory_NoPeople, sub_NoStory_NoCond, sub_NoStory_NoDay, sub_NoStory_NoStory, sub_NoStory_NoReading, sub_NoStory_NoClause, sub_NoStory_NoWhom, sub_NoStory_DayStands, sub_NoStory_LabelStands, sub_NoStory_NoWord, sub_NoStory_NoThing, sub_NoStory_NoPerson, sub_NoStory_NoRow, sub_NoStory_TooMany, sub_NoStory_NoUndo, sub_NoStory_NoLabel, sub_NoStory_RoomError, sub_NoStory_LostError, subB_NoStory_ArithmeticError, subB_NoStory_LookupError, subB_NoStory_ValueError] | refine ⟨(by decide), ?_⟩ | refine ⟨⟨_, rfl⟩, ?_⟩ | refine ite_f (by decide) ?_); (with_reducible conv => whnf))
  refine hK _ _ ?_
  clear hK K
  refine seq_c fun K hK => ?_
  (with_reducible conv => whnf)
  repeat ((first | simp only [sub_NoStory_WordError, sub_NoStory_NoShares, sub_NoStory_NoSum, sub_NoStory_NoName, sub_NoStory_NoText, sub_NoStory_NoGoods, sub_NoStory_NoPeople, sub_NoStory_NoCond, sub_NoStory_NoDay, sub_NoStory_NoStory, sub_NoStory_NoReading, sub_NoStory_NoClause, sub_NoStory_NoWhom, sub_NoStory_DayStands, sub_NoStory_LabelStands, sub_NoStory_NoWord, sub_NoStory_NoThing, sub_NoStory_NoPerson, sub_NoStory_NoRow, sub_NoStory_TooMany, sub_NoStory_NoUndo, sub_NoStory_NoLabel, sub_NoStory_RoomError, sub_NoStory_LostError, subB_NoStory_ArithmeticError, subB_NoStory_LookupError, subB_NoStory_ValueError] | refine ⟨(by decide), ?_⟩ | refine ⟨⟨_, rfl⟩, ?_⟩ | refine ite_f (by decide) ?_); (with_reducible conv => whnf))
  refine hK _ _ ?_
  clear hK K
  refine seq_c fun K hK => ?_
  (with_reducible conv => whnf)
  repeat ((first | simp only [sub_NoStory_WordError, sub_NoStory_NoShares, sub_NoStory_NoSum, sub_NoStory_NoName, sub_NoStory_NoText, sub_NoStory_NoGoods, sub_NoStory_NoPeople, sub_NoStory_NoCond, sub_NoStory_NoDay, sub_NoStory_NoStory, sub_NoStory_NoReading, sub_NoStory_NoClause, sub_NoStory_NoWhom, sub_NoStory_DayStands, sub_NoStory_LabelStands, sub_NoStory_NoWord, sub_NoStory_NoThing, sub_NoStory_NoPerson, sub_NoStory_NoRow, sub_NoStory_TooMany, sub_NoStory_NoUndo, sub_NoStory_NoLabel, sub_NoStory_RoomError, sub_NoStory_LostError, subB_NoStory_ArithmeticError, subB_NoStory_LookupError, subB_NoStory_ValueError] | refine ⟨(by decide), ?_⟩ | refine ⟨⟨_, rfl⟩, ?_⟩ | refine ite_f (by decide) ?_); (with_reducible conv => whnf))
  refine hK _ _ ?_
  clear hK K
  refine seq_c fun K hK => ?_
  (with_reducible conv => whnf)
  repeat ((first | simp only [sub_NoStory_WordError, sub_NoStory_NoShares, sub_NoStory_NoSum, sub_NoStory_NoName, sub_NoStory_NoText, sub_NoStory_NoGoods, sub_NoStory_NoPeople, sub_NoStory_NoCond, sub_NoStory_NoDay, sub_NoStory_NoStory, sub_NoStory_NoReading, sub_NoStory_NoClause, sub_NoStory_NoWhom, sub_NoStory_DayStands, sub_NoStory_LabelStands, sub_NoStory_NoWord, sub_NoStory_NoThing, sub_NoStory_NoPerson, sub_NoStory_NoRow, sub_NoStory_TooMany, sub_NoStory_NoUndo, sub_NoStory_NoLabel, sub_NoStory_RoomError, sub_NoStory_LostError, subB_NoStory_ArithmeticError, subB_NoStory_LookupError, subB_NoStory_ValueError] | refine ⟨(by decide), ?_⟩ | refine ⟨⟨_, rfl⟩, ?_⟩ | refine ite_f (by decide) ?_); (with_reducible conv => whnf))
  refine hK _ _ ?_
  clear hK K
  refine seq_c fun K hK => ?_
  (with_reducible conv => whnf)
  repeat ((first | simp only [sub_NoStory_WordError, sub_NoStory_NoShares, sub_NoStory_NoSum, sub_NoStory_NoName, sub_NoStory_NoText, sub_NoStory_NoGoods, sub_NoStory_NoPeople, sub_NoStory_NoCond, sub_NoStory_NoDay, sub_NoStory_NoStory, sub_NoStory_NoReading, sub_NoStory_NoClause, sub_NoStory_NoWhom, sub_NoStory_DayStands, sub_NoStory_LabelStands, sub_NoStory_NoWord, sub_NoStory_NoThing, sub_NoStory_NoPerson, sub_NoStory_NoRow, sub_NoStory_TooMany, sub_NoStory_NoUndo, sub_NoStory_NoLabel, sub_NoStory_RoomError, sub_NoStory_LostError, subB_NoStory_ArithmeticError, subB_NoStory_LookupError, subB_NoStory_ValueError] | refine ⟨(by decide), ?_⟩ | refine ⟨⟨_, rfl⟩, ?_⟩ | refine ite_f (by decide) ?_); (with_reducible conv => whnf))
  refine hK _ _ ?_
  clear hK K
  refine seq_c fun K hK => ?_
  (with_reducible conv => whnf)
  repeat ((first | simp only [sub_NoStory_WordError, sub_NoStory_NoShares, sub_NoStory_NoSum, sub_NoStory_NoName, sub_NoStory_NoText, sub_NoStory_NoGoods, sub_NoStory_NoPeople, sub_NoStory_NoCond, sub_NoStory_NoDay, sub_NoStory_NoStory, sub_NoStory_NoReading, sub_NoStory_NoClause, sub_NoStory_NoWhom, sub_NoStory_DayStands, sub_NoStory_LabelStands, sub_NoStory_NoWord, sub_NoStory_NoThing, sub_NoStory_NoPerson, sub_NoStory_NoRow, sub_NoStory_TooMany, sub_NoStory_NoUndo, sub_NoStory_NoLabel, sub_NoStory_RoomError, sub_NoStory_LostError, subB_NoStory_ArithmeticError, subB_NoStory_LookupError, subB_NoStory_ValueError] | refine ⟨(by decide), ?_⟩ | refine ⟨⟨_, rfl⟩, ?_⟩ | refine ite_f (by decide) ?_); (with_reducible conv => whnf))
  refine hK _ _ ?_
  clear hK K
  refine seq_c fun K hK => ?_
  (with_reducible conv => whnf)
  repeat ((first | simp only [sub_NoStory_WordError, sub_NoStory_NoShares, sub_NoStory_NoSum, sub_NoStory_NoName, sub_NoStory_NoText, sub_NoStory_NoGoods, sub_NoStory_NoPeople, sub_NoStory_NoCond, sub_NoStory_NoDay, sub_NoStory_NoStory, sub_NoStory_NoReading, sub_NoStory_NoClause, sub_NoStory_NoWhom, sub_NoStory_DayStands, sub_NoStory_LabelStands, sub_NoStory_NoWord, sub_NoStory_NoThing, sub_NoStory_NoPerson, sub_NoStory_NoRow, sub_NoStory_TooMany, sub_NoStory_NoUndo, sub_NoStory_NoLabel, sub_NoStory_RoomError, sub_NoStory_LostError, subB_NoStory_ArithmeticError, subB_NoStory_LookupError, subB_NoStory_ValueError] | refine ⟨(by decide), ?_⟩ | refine ⟨⟨_, rfl⟩, ?_⟩ | refine ite_f (by decide) ?_); (with_reducible conv => whnf))
  refine hK _ _ ?_
  clear hK K
  refine seq_c fun K hK => ?_
  (with_reducible conv => whnf)
  repeat ((first | simp only [sub_NoStory_WordError, sub_NoStory_NoShares, sub_NoStory_NoSum, sub_NoStory_NoName, sub_NoStory_NoText, sub_NoStory_NoGoods, sub_NoStory_NoPeople, sub_NoStory_NoCond, sub_NoStory_NoDay, sub_NoStory_NoStory, sub_NoStory_NoReading, sub_NoStory_NoClause, sub_NoStory_NoWhom, sub_NoStory_DayStands, sub_NoStory_LabelStands, sub_NoStory_NoWord, sub_NoStory_NoThing, sub_NoStory_NoPerson, sub_NoStory_NoRow, sub_NoStory_TooMany, sub_NoStory_NoUndo, sub_NoStory_NoLabel, sub_NoStory_RoomError, sub_NoStory_LostError, subB_NoStory_ArithmeticError, subB_NoStory_LookupError, subB_NoStory_ValueError] | refine ⟨(by decide), ?_⟩ | refine ⟨⟨_, rfl⟩, ?_⟩ | refine ite_f (by decide) ?_); (with_reducible conv => whnf))
  refine hK _ _ ?_
  clear hK K
  refine seq_c fun K hK => ?_
  (with_reducible conv => whnf)
  repeat ((first | simp only [sub_NoStory_WordError, sub_NoStory_NoShares, sub_NoStory_NoSum, sub_NoStory_NoName, sub_NoStory_NoText, sub_NoStory_NoGoods, sub_NoStory_NoPeople, sub_NoStory_NoCond, sub_NoStory_NoDay, sub_NoStory_NoStory, sub_NoStory_NoReading, sub_NoStory_NoClause, sub_NoStory_NoWhom, sub_NoStory_DayStands, sub_NoStory_LabelStands, sub_NoStory_NoWord, sub_NoStory_NoThing, sub_NoStory_NoPerson, sub_NoStory_NoRow, sub_NoStory_TooMany, sub_NoStory_NoUndo, sub_NoStory_NoLabel, sub_NoStory_RoomError, sub_NoStory_LostError, subB_NoStory_ArithmeticError, subB_NoStory_LookupError, subB_NoStory_ValueError] | refine ⟨(by decide), ?_⟩ | refine ⟨⟨_, rfl⟩, ?_⟩ | refine ite_f (by decide) ?_); (with_reducible conv => whnf))
  refine hK _ _ ?_
  clear hK K
  refine seq_c fun K hK => ?_
  (with_reducible conv => whnf)
  repeat ((first | simp only [sub_NoStory_WordError, sub_NoStory_NoShares, sub_NoStory_NoSum, sub_NoStory_NoName, sub_NoStory_NoText, sub_NoStory_NoGoods, sub_NoStory_NoPeople, sub_NoStory_NoCond, sub_NoStory_NoDay, sub_NoStory_NoStory, sub_NoStory_NoReading, sub_NoStory_NoClause, sub_NoStory_NoWhom, sub_NoStory_DayStands, sub_NoStory_LabelStands, sub_NoStory_NoWord, sub_NoStory_NoThing, sub_NoStory_NoPerson, sub_NoStory_NoRow, sub_NoStory_TooMany, sub_NoStory_NoUndo, sub_NoStory_NoLabel, sub_NoStory_RoomError, sub_NoStory_LostError, subB_NoStory_ArithmeticError, subB_NoStory_LookupError, subB_NoStory_ValueError] | refine ⟨(by decide), ?_⟩ | refine ⟨⟨_, rfl⟩, ?_⟩ | refine ite_f (by decide) ?_); (with_reducible conv => whnf))
  refine hK _ _ ?_
  clear hK K
  refine seq_c fun K hK => ?_
  (with_reducible conv => whnf)
  repeat ((first | simp only [sub_NoStory_WordError, sub_NoStory_NoShares, sub_NoStory_NoSum, sub_NoStory_NoName, sub_NoStory_NoText, sub_NoStory_NoGoods, sub_NoStory_NoPeople, sub_NoStory_NoCond, sub_NoStory_NoDay, sub_NoStory_NoStory, sub_NoStory_NoReading, sub_NoStory_NoClause, sub_NoStory_NoWhom, sub_NoStory_DayStands, sub_NoStory_LabelStands, sub_NoStory_NoWord, sub_NoStory_NoThing, sub_NoStory_NoPerson, sub_NoStory_NoRow, sub_NoStory_TooMany, sub_NoStory_NoUndo, sub_NoStory_NoLabel, sub_NoStory_RoomError, sub_NoStory_LostError, subB_NoStory_ArithmeticError, subB_NoStory_LookupError, subB_NoStory_ValueError] | refine ⟨(by decide), ?_⟩ | refine ⟨⟨_, rfl⟩, ?_⟩ | refine ite_f (by decide) ?_); (with_reducible conv => whnf))
  refine hK _ _ ?_
  clear hK K
  refine seq_c fun K hK => ?_
  (with_reducible conv => whnf)
  repeat ((first | simp only [sub_NoStory_WordError, sub_NoStory_NoShares, sub_NoStory_NoSum, sub_NoStory_NoName, sub_NoStory_NoText, sub_NoStory_NoGoods, sub_NoStory_NoPeople, sub_NoStory_NoCond, sub_NoStory_NoDay, sub_NoStory_NoStory, sub_NoStory_NoReading, sub_NoStory_NoClause, sub_NoStory_NoWhom, sub_NoStory_DayStands, sub_NoStory_LabelStands, sub_NoStory_NoWord, sub_NoStory_NoThing, sub_NoStory_NoPerson, sub_NoStory_NoRow, sub_NoStory_TooMany, sub_NoStory_NoUndo, sub_NoStory_NoLabel, sub_NoStory_RoomError, sub_NoStory_LostError, subB_NoStory_ArithmeticError, subB_NoStory_LookupError, subB_NoStory_ValueError] | refine ⟨(by decide), ?_⟩ | refine ⟨⟨_, rfl⟩, ?_⟩ | refine ite_f (by decide) ?_); (with_reducible conv => whnf))
  refine hK _ _ ?_
  clear hK K
  refine seq_c fun K hK => ?_
  (with_reducible conv => whnf)
  repeat ((first | simp only [sub_NoStory_WordError, sub_NoStory_NoShares, sub_NoStory_NoSum, sub_NoStory_NoName, sub_NoStory_NoText, sub_NoStory_NoGoods, sub_NoStory_NoPeople, sub_NoStory_NoCond, sub_NoStory_NoDay, sub_NoStory_NoStory, sub_NoStory_NoReading, sub_NoStory_NoClause, sub_NoStory_NoWhom, sub_NoStory_DayStands, sub_NoStory_LabelStands, sub_NoStory_NoWord, sub_NoStory_NoThing, sub_NoStory_NoPerson, sub_NoStory_NoRow, sub_NoStory_TooMany, sub_NoStory_NoUndo, sub_NoStory_NoLabel, sub_NoStory_RoomError, sub_NoStory_LostError, subB_NoStory_ArithmeticError, subB_NoStory_LookupError, subB_NoStory_ValueError] | refine ⟨(by decide), ?_⟩ | refine ⟨⟨_, rfl⟩, ?_⟩ | refine ite_f (by decide) ?_); (with_reducible conv => whnf))
  refine hK _ _ ?_
  clear hK K
  refine seq_c fun K hK => ?_
  (with_reducible conv => whnf)
  repeat ((first | simp only [sub_NoStory_WordError, sub_NoStory_NoShares, sub_NoStory_NoSum, sub_NoStory_NoName, sub_NoStory_NoText, sub_NoStory_NoGoods, sub_NoStory_NoPeople, sub_NoStory_NoCond, sub_NoStory_NoDay, sub_NoStory_NoStory, sub_NoStory_NoReading, sub_NoStory_NoClause, sub_NoStory_NoWhom, sub_NoStory_DayStands, sub_NoStory_LabelStands, sub_NoStory_NoWord, sub_NoStory_NoThing, sub_NoStory_NoPerson, sub_NoStory_NoRow, sub_NoStory_TooMany, sub_NoStory_NoUndo, sub_NoStory_NoLabel, sub_NoStory_RoomError, sub_NoStory_LostError, subB_NoStory_ArithmeticError, subB_NoStory_LookupError, subB_NoStory_ValueError] | refine ⟨(by decide), ?_⟩ | refine ⟨⟨_, rfl⟩, ?_⟩ | refine ite_f (by decide) ?_); (with_reducible conv => whnf))
  refine hK _ _ ?_
  clear hK K
  (with_reducible conv => whnf)
  conv in atI _ _ => change some (D.str "story")
  (with_reducible conv => whnf)
  refine ⟨(by decide), ?_⟩
  (with_reducible conv => whnf)
  refine deepEq_b (b := true) (by kernel_rfl) ?_
  (with_reducible conv => whnf)
  refine ite_f rfl ?_
  (with_reducible conv => whnf)
  refine deepEq_b (b := true) (by kernel_rfl) ?_
  (with_reducible conv => whnf)
  exact hQ
theorem sort_NoPeople {f : Str} {d : D} {h : Hd} {Q : QD} {Xd : QX} (hQ : Q (.str "people") h) : wpSs G b__law_sort (startE N__law_sort [.exc "NoPeople" [f] [d]]) h { nx := fun _ h' => Q .non h', rt := Q } (fun _ => Xd) := by
  refine seq_c fun K hK => ?_
  (with_reducible conv => whnf)
  repeat ((first | simp only [sub_NoPeople_WordError, sub_NoPeople_NoShares, sub_NoPeople_NoSum, sub_NoPeople_NoName, sub_NoPeople_NoText, sub_NoPeople_NoGoods, sub_NoPeople_NoPeople, sub_NoPeople_NoCond, sub_NoPeople_NoDay, sub_NoPeople_NoStory, sub_NoPeople_NoReading, sub_NoPeople_NoClause, sub_NoPeople_NoWhom, sub_NoPeople_DayStands, sub_NoPeople_LabelStands, sub_NoPeople_NoWord, sub_NoPeople_NoThing, sub_NoPeople_NoPerson, sub_NoPeople_NoRow, sub_NoPeople_TooMany, sub_NoPeople_NoUndo, sub_NoPeople_NoLabel, sub_NoPeople_RoomError, sub_NoPeople_LostError, subB_NoPeople_ArithmeticError, subB_NoPeople_LookupError, subB_NoPeople_ValueError] | refine ⟨(by decide), ?_⟩ | refine ⟨⟨_, rfl⟩, ?_⟩ | refine ite_f (by decide) ?_); (with_reducible conv => whnf))
  refine hK _ _ ?_
  clear hK K
  refine seq_c fun K hK => ?_
  (with_reducible conv => whnf)
  repeat ((first | simp only [sub_NoPeople_WordError, sub_NoPeople_NoShares, sub_NoPeople_NoSum, sub_NoPeople_NoName, sub_NoPeople_NoText, sub_NoPeople_NoGoods, sub_NoPeople_NoPeople, sub_NoPeople_NoCond, sub_NoPeople_NoDay, sub_NoPeople_NoStory, sub_NoPeople_NoReading, sub_NoPeople_NoClause, sub_NoPeople_NoWhom, sub_NoPeople_DayStands, sub_NoPeople_LabelStands, sub_NoPeople_NoWord, sub_NoPeople_NoThing, sub_NoPeople_NoPerson, sub_NoPeople_NoRow, sub_NoPeople_TooMany, sub_NoPeople_NoUndo, sub_NoPeople_NoLabel, sub_NoPeople_RoomError, sub_NoPeople_LostError, subB_NoPeople_ArithmeticError, subB_NoPeople_LookupError, subB_NoPeople_ValueError] | refine ⟨(by decide), ?_⟩ | refine ⟨⟨_, rfl⟩, ?_⟩ | refine ite_f (by decide) ?_); (with_reducible conv => whnf))
  refine hK _ _ ?_
  clear hK K
  refine seq_c fun K hK => ?_
  (with_reducible conv => whnf)
  repeat ((first | simp only [sub_NoPeople_WordError, sub_NoPeople_NoShares, sub_NoPeople_NoSum, sub_NoPeople_NoName, sub_NoPeople_NoText, sub_NoPeople_NoGoods, sub_NoPeople_NoPeople, sub_NoPeople_NoCond, sub_NoPeople_NoDay, sub_NoPeople_NoStory, sub_NoPeople_NoReading, sub_NoPeople_NoClause, sub_NoPeople_NoWhom, sub_NoPeople_DayStands, sub_NoPeople_LabelStands, sub_NoPeople_NoWord, sub_NoPeople_NoThing, sub_NoPeople_NoPerson, sub_NoPeople_NoRow, sub_NoPeople_TooMany, sub_NoPeople_NoUndo, sub_NoPeople_NoLabel, sub_NoPeople_RoomError, sub_NoPeople_LostError, subB_NoPeople_ArithmeticError, subB_NoPeople_LookupError, subB_NoPeople_ValueError] | refine ⟨(by decide), ?_⟩ | refine ⟨⟨_, rfl⟩, ?_⟩ | refine ite_f (by decide) ?_); (with_reducible conv => whnf))
  refine hK _ _ ?_
  clear hK K
  refine seq_c fun K hK => ?_
  (with_reducible conv => whnf)
  repeat ((first | simp only [sub_NoPeople_WordError, sub_NoPeople_NoShares, sub_NoPeople_NoSum, sub_NoPeople_NoName, sub_NoPeople_NoText, sub_NoPeople_NoGoods, sub_NoPeople_NoPeople, sub_NoPeople_NoCond, sub_NoPeople_NoDay, sub_NoPeople_NoStory, sub_NoPeople_NoReading, sub_NoPeople_NoClause, sub_NoPeople_NoWhom, sub_NoPeople_DayStands, sub_NoPeople_LabelStands, sub_NoPeople_NoWord, sub_NoPeople_NoThing, sub_NoPeople_NoPerson, sub_NoPeople_NoRow, sub_NoPeople_TooMany, sub_NoPeople_NoUndo, sub_NoPeople_NoLabel, sub_NoPeople_RoomError, sub_NoPeople_LostError, subB_NoPeople_ArithmeticError, subB_NoPeople_LookupError, subB_NoPeople_ValueError] | refine ⟨(by decide), ?_⟩ | refine ⟨⟨_, rfl⟩, ?_⟩ | refine ite_f (by decide) ?_); (with_reducible conv => whnf))
  refine hK _ _ ?_
  clear hK K
  refine seq_c fun K hK => ?_
  (with_reducible conv => whnf)
  repeat ((first | simp only [sub_NoPeople_WordError, sub_NoPeople_NoShares, sub_NoPeople_NoSum, sub_NoPeople_NoName, sub_NoPeople_NoText, sub_NoPeople_NoGoods, sub_NoPeople_NoPeople, sub_NoPeople_NoCond, sub_NoPeople_NoDay, sub_NoPeople_NoStory, sub_NoPeople_NoReading, sub_NoPeople_NoClause, sub_NoPeople_NoWhom, sub_NoPeople_DayStands, sub_NoPeople_LabelStands, sub_NoPeople_NoWord, sub_NoPeople_NoThing, sub_NoPeople_NoPerson, sub_NoPeople_NoRow, sub_NoPeople_TooMany, sub_NoPeople_NoUndo, sub_NoPeople_NoLabel, sub_NoPeople_RoomError, sub_NoPeople_LostError, subB_NoPeople_ArithmeticError, subB_NoPeople_LookupError, subB_NoPeople_ValueError] | refine ⟨(by decide), ?_⟩ | refine ⟨⟨_, rfl⟩, ?_⟩ | refine ite_f (by decide) ?_); (with_reducible conv => whnf))
  refine hK _ _ ?_
  clear hK K
  refine seq_c fun K hK => ?_
  (with_reducible conv => whnf)
  repeat ((first | simp only [sub_NoPeople_WordError, sub_NoPeople_NoShares, sub_NoPeople_NoSum, sub_NoPeople_NoName, sub_NoPeople_NoText, sub_NoPeople_NoGoods, sub_NoPeople_NoPeople, sub_NoPeople_NoCond, sub_NoPeople_NoDay, sub_NoPeople_NoStory, sub_NoPeople_NoReading, sub_NoPeople_NoClause, sub_NoPeople_NoWhom, sub_NoPeople_DayStands, sub_NoPeople_LabelStands, sub_NoPeople_NoWord, sub_NoPeople_NoThing, sub_NoPeople_NoPerson, sub_NoPeople_NoRow, sub_NoPeople_TooMany, sub_NoPeople_NoUndo, sub_NoPeople_NoLabel, sub_NoPeople_RoomError, sub_NoPeople_LostError, subB_NoPeople_ArithmeticError, subB_NoPeople_LookupError, subB_NoPeople_ValueError] | refine ⟨(by decide), ?_⟩ | refine ⟨⟨_, rfl⟩, ?_⟩ | refine ite_f (by decide) ?_); (with_reducible conv => whnf))
  refine hK _ _ ?_
  clear hK K
  refine seq_c fun K hK => ?_
  (with_reducible conv => whnf)
  repeat ((first | simp only [sub_NoPeople_WordError, sub_NoPeople_NoShares, sub_NoPeople_NoSum, sub_NoPeople_NoName, sub_NoPeople_NoText, sub_NoPeople_NoGoods, sub_NoPeople_NoPeople, sub_NoPeople_NoCond, sub_NoPeople_NoDay, sub_NoPeople_NoStory, sub_NoPeople_NoReading, sub_NoPeople_NoClause, sub_NoPeople_NoWhom, sub_NoPeople_DayStands, sub_NoPeople_LabelStands, sub_NoPeople_NoWord, sub_NoPeople_NoThing, sub_NoPeople_NoPerson, sub_NoPeople_NoRow, sub_NoPeople_TooMany, sub_NoPeople_NoUndo, sub_NoPeople_NoLabel, sub_NoPeople_RoomError, sub_NoPeople_LostError, subB_NoPeople_ArithmeticError, subB_NoPeople_LookupError, subB_NoPeople_ValueError] | refine ⟨(by decide), ?_⟩ | refine ⟨⟨_, rfl⟩, ?_⟩ | refine ite_f (by decide) ?_); (with_reducible conv => whnf))
  refine hK _ _ ?_
  clear hK K
  refine seq_c fun K hK => ?_
  (with_reducible conv => whnf)
  repeat ((first | simp only [sub_NoPeople_WordError, sub_NoPeople_NoShares, sub_NoPeople_NoSum, sub_NoPeople_NoName, sub_NoPeople_NoText, sub_NoPeople_NoGoods, sub_NoPeople_NoPeople, sub_NoPeople_NoCond, sub_NoPeople_NoDay, sub_NoPeople_NoStory, sub_NoPeople_NoReading, sub_NoPeople_NoClause, sub_NoPeople_NoWhom, sub_NoPeople_DayStands, sub_NoPeople_LabelStands, sub_NoPeople_NoWord, sub_NoPeople_NoThing, sub_NoPeople_NoPerson, sub_NoPeople_NoRow, sub_NoPeople_TooMany, sub_NoPeople_NoUndo, sub_NoPeople_NoLabel, sub_NoPeople_RoomError, sub_NoPeople_LostError, subB_NoPeople_ArithmeticError, subB_NoPeople_LookupError, subB_NoPeople_ValueError] | refine ⟨(by decide), ?_⟩ | refine ⟨⟨_, rfl⟩, ?_⟩ | refine ite_f (by decide) ?_); (with_reducible conv => whnf))
  refine hK _ _ ?_
  clear hK K
  refine seq_c fun K hK => ?_
  (with_reducible conv => whnf)
  repeat ((first | simp only [sub_NoPeople_WordError, sub_NoPeople_NoShares, sub_NoPeople_NoSum, sub_NoPeople_NoName, sub_NoPeople_NoText, sub_NoPeople_NoGoods, sub_NoPeople_NoPeople, sub_NoPeople_NoCond, sub_NoPeople_NoDay, sub_NoPeople_NoStory, sub_NoPeople_NoReading, sub_NoPeople_NoClause, sub_NoPeople_NoWhom, sub_NoPeople_DayStands, sub_NoPeople_LabelStands, sub_NoPeople_NoWord, sub_NoPeople_NoThing, sub_NoPeople_NoPerson, sub_NoPeople_NoRow, sub_NoPeople_TooMany, sub_NoPeople_NoUndo, sub_NoPeople_NoLabel, sub_NoPeople_RoomError, sub_NoPeople_LostError, subB_NoPeople_ArithmeticError, subB_NoPeople_LookupError, subB_NoPeople_ValueError] | refine ⟨(by decide), ?_⟩ | refine ⟨⟨_, rfl⟩, ?_⟩ | refine ite_f (by decide) ?_); (with_reducible conv => whnf))
  refine hK _ _ ?_
  clear hK K
  refine seq_c fun K hK => ?_
  (with_reducible conv => whnf)
  repeat ((first | simp only [sub_NoPeople_WordError, sub_NoPeople_NoShares, sub_NoPeople_NoSum, sub_NoPeople_NoName, sub_NoPeople_NoText, sub_NoPeople_NoGoods, sub_NoPeople_NoPeople, sub_NoPeople_NoCond, sub_NoPeople_NoDay, sub_NoPeople_NoStory, sub_NoPeople_NoReading, sub_NoPeople_NoClause, sub_NoPeople_NoWhom, sub_NoPeople_DayStands, sub_NoPeople_LabelStands, sub_NoPeople_NoWord, sub_NoPeople_NoThing, sub_NoPeople_NoPerson, sub_NoPeople_NoRow, sub_NoPeople_TooMany, sub_NoPeople_NoUndo, sub_NoPeople_NoLabel, sub_NoPeople_RoomError, sub_NoPeople_LostError, subB_NoPeople_ArithmeticError, subB_NoPeople_LookupError, subB_NoPeople_ValueError] | refine ⟨(by decide), ?_⟩ | refine ⟨⟨_, rfl⟩, ?_⟩ | refine ite_f (by decide) ?_); (with_reducible conv => whnf))
  refine hK _ _ ?_
  clear hK K
  refine seq_c fun K hK => ?_
  (with_reducible conv => whnf)
  repeat ((first | simp only [sub_NoPeople_WordError, sub_NoPeople_NoShares, sub_NoPeople_NoSum, sub_NoPeople_NoName, sub_NoPeople_NoText, sub_NoPeople_NoGoods, sub_NoPeople_NoPeople, sub_NoPeople_NoCond, sub_NoPeople_NoDay, sub_NoPeople_NoStory, sub_NoPeople_NoReading, sub_NoPeople_NoClause, sub_NoPeople_NoWhom, sub_NoPeople_DayStands, sub_NoPeople_LabelStands, sub_NoPeople_NoWord, sub_NoPeople_NoThing, sub_NoPeople_NoPerson, sub_NoPeople_NoRow, sub_NoPeople_TooMany, sub_NoPeople_NoUndo, sub_NoPeople_NoLabel, sub_NoPeople_RoomError, sub_NoPeople_LostError, subB_NoPeople_ArithmeticError, subB_NoPeople_LookupError, subB_NoPeople_ValueError] | refine ⟨(by decide), ?_⟩ | refine ⟨⟨_, rfl⟩, ?_⟩ | refine ite_f (by decide) ?_); (with_reducible conv => whnf))
  refine hK _ _ ?_
  clear hK K
  refine seq_c fun K hK => ?_
  (with_reducible conv => whnf)
  repeat ((first | simp only [sub_NoPeople_WordError, sub_NoPeople_NoShares, sub_NoPeople_NoSum, sub_NoPeople_NoName, sub_NoPeople_NoText, sub_NoPeople_NoGoods, sub_NoPeople_NoPeople, sub_NoPeople_NoCond, sub_NoPeople_NoDay, sub_NoPeople_NoStory, sub_NoPeople_NoReading, sub_NoPeople_NoClause, sub_NoPeople_NoWhom, sub_NoPeople_DayStands, sub_NoPeople_LabelStands, sub_NoPeople_NoWord, sub_NoPeople_NoThing, sub_NoPeople_NoPerson, sub_NoPeople_NoRow, sub_NoPeople_TooMany, sub_NoPeople_NoUndo, sub_NoPeople_NoLabel, sub_NoPeople_RoomError, sub_NoPeople_LostError, subB_NoPeople_ArithmeticError, subB_NoPeople_LookupError, subB_NoPeople_ValueError] | refine ⟨(by decide), ?_⟩ | refine ⟨⟨_, rfl⟩, ?_⟩ | refine ite_f (by decide) ?_); (with_reducible conv => whnf))
  refine hK _ _ ?_
  clear hK K
  refine seq_c fun K hK => ?_
  (with_reducible conv => whnf)
  repeat ((first | simp only [sub_NoPeople_WordError, sub_NoPeople_NoShares, sub_NoPeople_NoSum, sub_NoPeople_NoName, sub_NoPeople_NoText, sub_NoPeople_NoGoods, sub_NoPeople_NoPeople, sub_NoPeople_NoCond, sub_NoPeople_NoDay, sub_NoPeople_NoStory, sub_NoPeople_NoReading, sub_NoPeople_NoClause, sub_NoPeople_NoWhom, sub_NoPeople_DayStands, sub_NoPeople_LabelStands, sub_NoPeople_NoWord, sub_NoPeople_NoThing, sub_NoPeople_NoPerson, sub_NoPeople_NoRow, sub_NoPeople_TooMany, sub_NoPeople_NoUndo, sub_NoPeople_NoLabel, sub_NoPeople_RoomError, sub_NoPeople_LostError, subB_NoPeople_ArithmeticError, subB_NoPeople_LookupError, subB_NoPeople_ValueError] | refine ⟨(by decide), ?_⟩ | refine ⟨⟨_, rfl⟩, ?_⟩ | refine ite_f (by decide) ?_); (with_reducible conv => whnf))
  refine hK _ _ ?_
  clear hK K
  refine seq_c fun K hK => ?_
  (with_reducible conv => whnf)
  repeat ((first | simp only [sub_NoPeople_WordError, sub_NoPeople_NoShares, sub_NoPeople_NoSum, sub_NoPeople_NoName, sub_NoPeople_NoText, sub_NoPeople_NoGoods, sub_NoPeople_NoPeople, sub_NoPeople_NoCond, sub_NoPeople_NoDay, sub_NoPeople_NoStory, sub_NoPeople_NoReading, sub_NoPeople_NoClause, sub_NoPeople_NoWhom, sub_NoPeople_DayStands, sub_NoPeople_LabelStands, sub_NoPeople_NoWord, sub_NoPeople_NoThing, sub_NoPeople_NoPerson, sub_NoPeople_NoRow, sub_NoPeople_TooMany, sub_NoPeople_NoUndo, sub_NoPeople_NoLabel, sub_NoPeople_RoomError, sub_NoPeople_LostError, subB_NoPeople_ArithmeticError, subB_NoPeople_LookupError, subB_NoPeople_ValueError] | refine ⟨(by decide), ?_⟩ | refine ⟨⟨_, rfl⟩, ?_⟩ | refine ite_f (by decide) ?_); (with_reducible conv => whnf))
  refine hK _ _ ?_
  clear hK K
  (with_reducible conv => whnf)
  conv in atI _ _ => change some (D.str "people")
  (with_reducible conv => whnf)
  refine ⟨(by decide), ?_⟩
  (with_reducible conv => whnf)
  refine deepEq_b (b := true) (by kernel_rfl) ?_
  (with_reducible conv => whnf)
  refine ite_f rfl ?_
  (with_reducible conv => whnf)
  refine deepEq_b (b := true) (by kernel_rfl) ?_
  (with_reducible conv => whnf)
  exact hQ
theorem w__law_sort : Meets G N__law_sort 1 b__law_sort S__law_sort := by
  rintro ds h Q Xd - ⟨c, f, d, w, rfl, z, hQ⟩
  rcases z with ⟨rfl, rfl⟩ | ⟨rfl, rfl⟩ | ⟨rfl, rfl⟩
  · exact sort_NoSum hQ
  · exact sort_NoStory hQ
  · exact sort_NoPeople hQ
end K01
namespace K01
open Y
open PySem (sizeLine Str Addr)
open L2 (atI ixN)
theorem w__law_refused : Meets G N__law_refused 2 b__law_refused S__law_refused := by
  rintro ds h Q Xd - ⟨w, d, rfl, hw, hQ⟩
  rcases hw with rfl | ⟨rfl | rfl, hb⟩
  · refine seq_c fun K hK => ?_; (with_reducible conv => whnf); repeat ((first | refine ite_t rfl ?_ | refine ite_f rfl ?_ | rw [atI_0] | rw [atI_1] | refine nat_ok rfl ?_ | refine len_k rfl ?_ | refine call__law_pool_0 ?_ | refine call__law_take_0 ?_ | refine call__law_drawn_0 ?_ | refine call__law_is_name_0 ?_ | refine call_is_name_0 ?_ | refine call_is_name_1 ?_ | refine call_is_whole_0 ?_ | refine call_is_between_0 ?_ | refine call_divisor_0 ?_ | refine call_is_share_0 ?_ | refine call_are_shares_0 ?_ | refine call_parts_by_0 ?_ | refine call_split_by_0 ?_ | refine call_parted_0 ?_ | refine call_is_day_0 ?_ | refine call_is_death_0 ?_ | refine call_check_deaths_0 ?_ | refine call_Story_M___init___0 ?_ | refine call_is_person_0 ?_ | refine call_check_people_0 ?_ | refine call_is_sum_0 ?_ | refine call_is_ware_0 ?_ | refine call_check_goods_0 ?_ | refine call_check_sum_0 ?_ | refine call_House_M___init___0 ?_ | refine call__law_sort_0 ?_ | refine call__law_refused_0 ?_); (with_reducible conv => whnf))
    refine hK _ _ ?_; clear hK K
    refine seq_c fun K hK => ?_; (with_reducible conv => whnf); repeat ((first | refine ite_t rfl ?_ | refine ite_f rfl ?_ | rw [atI_0] | rw [atI_1] | refine nat_ok rfl ?_ | refine len_k rfl ?_ | refine call__law_pool_0 ?_ | refine call__law_take_0 ?_ | refine call__law_drawn_0 ?_ | refine call__law_is_name_0 ?_ | refine call_is_name_0 ?_ | refine call_is_name_1 ?_ | refine call_is_whole_0 ?_ | refine call_is_between_0 ?_ | refine call_divisor_0 ?_ | refine call_is_share_0 ?_ | refine call_are_shares_0 ?_ | refine call_parts_by_0 ?_ | refine call_split_by_0 ?_ | refine call_parted_0 ?_ | refine call_is_day_0 ?_ | refine call_is_death_0 ?_ | refine call_check_deaths_0 ?_ | refine call_Story_M___init___0 ?_ | refine call_is_person_0 ?_ | refine call_check_people_0 ?_ | refine call_is_sum_0 ?_ | refine call_is_ware_0 ?_ | refine call_check_goods_0 ?_ | refine call_check_sum_0 ?_ | refine call_House_M___init___0 ?_ | refine call__law_sort_0 ?_ | refine call__law_refused_0 ?_); (with_reducible conv => whnf))
    refine ⟨d, rfl, ?_⟩
    (with_reducible conv => whnf); repeat ((first | refine ite_t rfl ?_ | refine ite_f rfl ?_ | rw [atI_0] | rw [atI_1] | refine nat_ok rfl ?_ | refine len_k rfl ?_ | refine call__law_pool_0 ?_ | refine call__law_take_0 ?_ | refine call__law_drawn_0 ?_ | refine call__law_is_name_0 ?_ | refine call_is_name_0 ?_ | refine call_is_name_1 ?_ | refine call_is_whole_0 ?_ | refine call_is_between_0 ?_ | refine call_divisor_0 ?_ | refine call_is_share_0 ?_ | refine call_are_shares_0 ?_ | refine call_parts_by_0 ?_ | refine call_split_by_0 ?_ | refine call_parted_0 ?_ | refine call_is_day_0 ?_ | refine call_is_death_0 ?_ | refine call_check_deaths_0 ?_ | refine call_Story_M___init___0 ?_ | refine call_is_person_0 ?_ | refine call_check_people_0 ?_ | refine call_is_sum_0 ?_ | refine call_is_ware_0 ?_ | refine call_check_goods_0 ?_ | refine call_check_sum_0 ?_ | refine call_House_M___init___0 ?_ | refine call__law_sort_0 ?_ | refine call__law_refused_0 ?_); (with_reducible conv => whnf))
    rw [sub_NoSum_WordError]
    (with_reducible conv => whnf); repeat ((first | refine ite_t rfl ?_ | refine ite_f rfl ?_ | rw [atI_0] | rw [atI_1] | refine nat_ok rfl ?_ | refine len_k rfl ?_ | refine call__law_pool_0 ?_ | refine call__law_take_0 ?_ | refine call__law_drawn_0 ?_ | refine call__law_is_name_0 ?_ | refine call_is_name_0 ?_ | refine call_is_name_1 ?_ | refine call_is_whole_0 ?_ | refine call_is_between_0 ?_ | refine call_divisor_0 ?_ | refine call_is_share_0 ?_ | refine call_are_shares_0 ?_ | refine call_parts_by_0 ?_ | refine call_split_by_0 ?_ | refine call_parted_0 ?_ | refine call_is_day_0 ?_ | refine call_is_death_0 ?_ | refine call_check_deaths_0 ?_ | refine call_Story_M___init___0 ?_ | refine call_is_person_0 ?_ | refine call_check_people_0 ?_ | refine call_is_sum_0 ?_ | refine call_is_ware_0 ?_ | refine call_check_goods_0 ?_ | refine call_check_sum_0 ?_ | refine call_House_M___init___0 ?_ | refine call__law_sort_0 ?_ | refine call__law_refused_0 ?_); (with_reducible conv => whnf))
    refine hK _ _ ?_; clear hK K
    refine seq_c fun K hK => ?_; (with_reducible conv => whnf); repeat ((first | refine ite_t rfl ?_ | refine ite_f rfl ?_ | rw [atI_0] | rw [atI_1] | refine nat_ok rfl ?_ | refine len_k rfl ?_ | refine call__law_pool_0 ?_ | refine call__law_take_0 ?_ | refine call__law_drawn_0 ?_ | refine call__law_is_name_0 ?_ | refine call_is_name_0 ?_ | refine call_is_name_1 ?_ | refine call_is_whole_0 ?_ | refine call_is_between_0 ?_ | refine call_divisor_0 ?_ | refine call_is_share_0 ?_ | refine call_are_shares_0 ?_ | refine call_parts_by_0 ?_ | refine call_split_by_0 ?_ | refine call_parted_0 ?_ | refine call_is_day_0 ?_ | refine call_is_death_0 ?_ | refine call_check_deaths_0 ?_ | refine call_Story_M___init___0 ?_ | refine call_is_person_0 ?_ | refine call_check_people_0 ?_ | refine call_is_sum_0 ?_ | refine call_is_ware_0 ?_ | refine call_check_goods_0 ?_ | refine call_check_sum_0 ?_ | refine call_House_M___init___0 ?_ | refine call__law_sort_0 ?_ | refine call__law_refused_0 ?_); (with_reducible conv => whnf))
    refine ⟨"NoSum", "thing", .int (-1), "sum", rfl, .inl ⟨rfl, rfl⟩, ?_⟩
    refine hK _ _ ?_; clear hK K
    refine seq_c fun K hK => ?_; (with_reducible conv => whnf); repeat ((first | refine ite_t rfl ?_ | refine ite_f rfl ?_ | rw [atI_0] | rw [atI_1] | refine nat_ok rfl ?_ | refine len_k rfl ?_ | refine call__law_pool_0 ?_ | refine call__law_take_0 ?_ | refine call__law_drawn_0 ?_ | refine call__law_is_name_0 ?_ | refine call_is_name_0 ?_ | refine call_is_name_1 ?_ | refine call_is_whole_0 ?_ | refine call_is_between_0 ?_ | refine call_divisor_0 ?_ | refine call_is_share_0 ?_ | refine call_are_shares_0 ?_ | refine call_parts_by_0 ?_ | refine call_split_by_0 ?_ | refine call_parted_0 ?_ | refine call_is_day_0 ?_ | refine call_is_death_0 ?_ | refine call_check_deaths_0 ?_ | refine call_Story_M___init___0 ?_ | refine call_is_person_0 ?_ | refine call_check_people_0 ?_ | refine call_is_sum_0 ?_ | refine call_is_ware_0 ?_ | refine call_check_goods_0 ?_ | refine call_check_sum_0 ?_ | refine call_House_M___init___0 ?_ | refine call__law_sort_0 ?_ | refine call__law_refused_0 ?_); (with_reducible conv => whnf))
    refine ⟨xfl_NoSum, ?_⟩
    conv in posF _ _ => change some 0
    (with_reducible conv => whnf); repeat ((first | refine ite_t rfl ?_ | refine ite_f rfl ?_ | rw [atI_0] | rw [atI_1] | refine nat_ok rfl ?_ | refine len_k rfl ?_ | refine call__law_pool_0 ?_ | refine call__law_take_0 ?_ | refine call__law_drawn_0 ?_ | refine call__law_is_name_0 ?_ | refine call_is_name_0 ?_ | refine call_is_name_1 ?_ | refine call_is_whole_0 ?_ | refine call_is_between_0 ?_ | refine call_divisor_0 ?_ | refine call_is_share_0 ?_ | refine call_are_shares_0 ?_ | refine call_parts_by_0 ?_ | refine call_split_by_0 ?_ | refine call_parted_0 ?_ | refine call_is_day_0 ?_ | refine call_is_death_0 ?_ | refine call_check_deaths_0 ?_ | refine call_Story_M___init___0 ?_ | refine call_is_person_0 ?_ | refine call_check_people_0 ?_ | refine call_is_sum_0 ?_ | refine call_is_ware_0 ?_ | refine call_check_goods_0 ?_ | refine call_check_sum_0 ?_ | refine call_House_M___init___0 ?_ | refine call__law_sort_0 ?_ | refine call__law_refused_0 ?_); (with_reducible conv => whnf))
    exact hQ _ .refl
  · refine seq_c fun K hK => ?_; (with_reducible conv => whnf); repeat ((first | refine ite_t rfl ?_ | refine ite_f rfl ?_ | rw [atI_0] | rw [atI_1] | refine nat_ok rfl ?_ | refine len_k rfl ?_ | refine call__law_pool_0 ?_ | refine call__law_take_0 ?_ | refine call__law_drawn_0 ?_ | refine call__law_is_name_0 ?_ | refine call_is_name_0 ?_ | refine call_is_name_1 ?_ | refine call_is_whole_0 ?_ | refine call_is_between_0 ?_ | refine call_divisor_0 ?_ | refine call_is_share_0 ?_ | refine call_are_shares_0 ?_ | refine call_parts_by_0 ?_ | refine call_split_by_0 ?_ | refine call_parted_0 ?_ | refine call_is_day_0 ?_ | refine call_is_death_0 ?_ | refine call_check_deaths_0 ?_ | refine call_Story_M___init___0 ?_ | refine call_is_person_0 ?_ | refine call_check_people_0 ?_ | refine call_is_sum_0 ?_ | refine call_is_ware_0 ?_ | refine call_check_goods_0 ?_ | refine call_check_sum_0 ?_ | refine call_House_M___init___0 ?_ | refine call__law_sort_0 ?_ | refine call__law_refused_0 ?_); (with_reducible conv => whnf))
    refine hK _ _ ?_; clear hK K
    refine seq_c fun K hK => ?_; (with_reducible conv => whnf); repeat ((first | refine ite_t rfl ?_ | refine ite_f rfl ?_ | rw [atI_0] | rw [atI_1] | refine nat_ok rfl ?_ | refine len_k rfl ?_ | refine call__law_pool_0 ?_ | refine call__law_take_0 ?_ | refine call__law_drawn_0 ?_ | refine call__law_is_name_0 ?_ | refine call_is_name_0 ?_ | refine call_is_name_1 ?_ | refine call_is_whole_0 ?_ | refine call_is_between_0 ?_ | refine call_divisor_0 ?_ | refine call_is_share_0 ?_ | refine call_are_shares_0 ?_ | refine call_parts_by_0 ?_ | refine call_split_by_0 ?_ | refine call_parted_0 ?_ | refine call_is_day_0 ?_ | refine call_is_death_0 ?_ | refine call_check_deaths_0 ?_ | refine call_Story_M___init___0 ?_ | refine call_is_person_0 ?_ | refine call_check_people_0 ?_ | refine call_is_sum_0 ?_ | refine call_is_ware_0 ?_ | refine call_check_goods_0 ?_ | refine call_check_sum_0 ?_ | refine call_House_M___init___0 ?_ | refine call__law_sort_0 ?_ | refine call__law_refused_0 ?_); (with_reducible conv => whnf))
    intro a ha
    (with_reducible conv => whnf); repeat ((first | refine ite_t rfl ?_ | refine ite_f rfl ?_ | rw [atI_0] | rw [atI_1] | refine nat_ok rfl ?_ | refine len_k rfl ?_ | refine call__law_pool_0 ?_ | refine call__law_take_0 ?_ | refine call__law_drawn_0 ?_ | refine call__law_is_name_0 ?_ | refine call_is_name_0 ?_ | refine call_is_name_1 ?_ | refine call_is_whole_0 ?_ | refine call_is_between_0 ?_ | refine call_divisor_0 ?_ | refine call_is_share_0 ?_ | refine call_are_shares_0 ?_ | refine call_parts_by_0 ?_ | refine call_split_by_0 ?_ | refine call_parted_0 ?_ | refine call_is_day_0 ?_ | refine call_is_death_0 ?_ | refine call_check_deaths_0 ?_ | refine call_Story_M___init___0 ?_ | refine call_is_person_0 ?_ | refine call_check_people_0 ?_ | refine call_is_sum_0 ?_ | refine call_is_ware_0 ?_ | refine call_check_goods_0 ?_ | refine call_check_sum_0 ?_ | refine call_House_M___init___0 ?_ | refine call__law_sort_0 ?_ | refine call__law_refused_0 ?_); (with_reducible conv => whnf))
    refine ⟨a, d, .int 3, rfl, hb, ?_⟩
    (with_reducible conv => whnf); repeat ((first | refine ite_t rfl ?_ | refine ite_f rfl ?_ | rw [atI_0] | rw [atI_1] | refine nat_ok rfl ?_ | refine len_k rfl ?_ | refine call__law_pool_0 ?_ | refine call__law_take_0 ?_ | refine call__law_drawn_0 ?_ | refine call__law_is_name_0 ?_ | refine call_is_name_0 ?_ | refine call_is_name_1 ?_ | refine call_is_whole_0 ?_ | refine call_is_between_0 ?_ | refine call_divisor_0 ?_ | refine call_is_share_0 ?_ | refine call_are_shares_0 ?_ | refine call_parts_by_0 ?_ | refine call_split_by_0 ?_ | refine call_parted_0 ?_ | refine call_is_day_0 ?_ | refine call_is_death_0 ?_ | refine call_check_deaths_0 ?_ | refine call_Story_M___init___0 ?_ | refine call_is_person_0 ?_ | refine call_check_people_0 ?_ | refine call_is_sum_0 ?_ | refine call_is_ware_0 ?_ | refine call_check_goods_0 ?_ | refine call_check_sum_0 ?_ | refine call_House_M___init___0 ?_ | refine call__law_sort_0 ?_ | refine call__law_refused_0 ?_); (with_reducible conv => whnf))
    rw [sub_NoStory_WordError]
    (with_reducible conv => whnf); repeat ((first | refine ite_t rfl ?_ | refine ite_f rfl ?_ | rw [atI_0] | rw [atI_1] | refine nat_ok rfl ?_ | refine len_k rfl ?_ | refine call__law_pool_0 ?_ | refine call__law_take_0 ?_ | refine call__law_drawn_0 ?_ | refine call__law_is_name_0 ?_ | refine call_is_name_0 ?_ | refine call_is_name_1 ?_ | refine call_is_whole_0 ?_ | refine call_is_between_0 ?_ | refine call_divisor_0 ?_ | refine call_is_share_0 ?_ | refine call_are_shares_0 ?_ | refine call_parts_by_0 ?_ | refine call_split_by_0 ?_ | refine call_parted_0 ?_ | refine call_is_day_0 ?_ | refine call_is_death_0 ?_ | refine call_check_deaths_0 ?_ | refine call_Story_M___init___0 ?_ | refine call_is_person_0 ?_ | refine call_check_people_0 ?_ | refine call_is_sum_0 ?_ | refine call_is_ware_0 ?_ | refine call_check_goods_0 ?_ | refine call_check_sum_0 ?_ | refine call_House_M___init___0 ?_ | refine call__law_sort_0 ?_ | refine call__law_refused_0 ?_); (with_reducible conv => whnf))
    refine hK _ _ ?_; clear hK K
    refine seq_c fun K hK => ?_; (with_reducible conv => whnf); repeat ((first | refine ite_t rfl ?_ | refine ite_f rfl ?_ | rw [atI_0] | rw [atI_1] | refine nat_ok rfl ?_ | refine len_k rfl ?_ | refine call__law_pool_0 ?_ | refine call__law_take_0 ?_ | refine call__law_drawn_0 ?_ | refine call__law_is_name_0 ?_ | refine call_is_name_0 ?_ | refine call_is_name_1 ?_ | refine call_is_whole_0 ?_ | refine call_is_between_0 ?_ | refine call_divisor_0 ?_ | refine call_is_share_0 ?_ | refine call_are_shares_0 ?_ | refine call_parts_by_0 ?_ | refine call_split_by_0 ?_ | refine call_parted_0 ?_ | refine call_is_day_0 ?_ | refine call_is_death_0 ?_ | refine call_check_deaths_0 ?_ | refine call_Story_M___init___0 ?_ | refine call_is_person_0 ?_ | refine call_check_people_0 ?_ | refine call_is_sum_0 ?_ | refine call_is_ware_0 ?_ | refine call_check_goods_0 ?_ | refine call_check_sum_0 ?_ | refine call_House_M___init___0 ?_ | refine call__law_sort_0 ?_ | refine call__law_refused_0 ?_); (with_reducible conv => whnf))
    refine ⟨"NoStory", "number", .int 0, "story", rfl, .inr (.inl ⟨rfl, rfl⟩), ?_⟩
    refine hK _ _ ?_; clear hK K
    refine seq_c fun K hK => ?_; (with_reducible conv => whnf); repeat ((first | refine ite_t rfl ?_ | refine ite_f rfl ?_ | rw [atI_0] | rw [atI_1] | refine nat_ok rfl ?_ | refine len_k rfl ?_ | refine call__law_pool_0 ?_ | refine call__law_take_0 ?_ | refine call__law_drawn_0 ?_ | refine call__law_is_name_0 ?_ | refine call_is_name_0 ?_ | refine call_is_name_1 ?_ | refine call_is_whole_0 ?_ | refine call_is_between_0 ?_ | refine call_divisor_0 ?_ | refine call_is_share_0 ?_ | refine call_are_shares_0 ?_ | refine call_parts_by_0 ?_ | refine call_split_by_0 ?_ | refine call_parted_0 ?_ | refine call_is_day_0 ?_ | refine call_is_death_0 ?_ | refine call_check_deaths_0 ?_ | refine call_Story_M___init___0 ?_ | refine call_is_person_0 ?_ | refine call_check_people_0 ?_ | refine call_is_sum_0 ?_ | refine call_is_ware_0 ?_ | refine call_check_goods_0 ?_ | refine call_check_sum_0 ?_ | refine call_House_M___init___0 ?_ | refine call__law_sort_0 ?_ | refine call__law_refused_0 ?_); (with_reducible conv => whnf))
    refine hK _ _ ?_; clear hK K
    refine seq_c fun K hK => ?_; (with_reducible conv => whnf); repeat ((first | refine ite_t rfl ?_ | refine ite_f rfl ?_ | rw [atI_0] | rw [atI_1] | refine nat_ok rfl ?_ | refine len_k rfl ?_ | refine call__law_pool_0 ?_ | refine call__law_take_0 ?_ | refine call__law_drawn_0 ?_ | refine call__law_is_name_0 ?_ | refine call_is_name_0 ?_ | refine call_is_name_1 ?_ | refine call_is_whole_0 ?_ | refine call_is_between_0 ?_ | refine call_divisor_0 ?_ | refine call_is_share_0 ?_ | refine call_are_shares_0 ?_ | refine call_parts_by_0 ?_ | refine call_split_by_0 ?_ | refine call_parted_0 ?_ | refine call_is_day_0 ?_ | refine call_is_death_0 ?_ | refine call_check_deaths_0 ?_ | refine call_Story_M___init___0 ?_ | refine call_is_person_0 ?_ | refine call_check_people_0 ?_ | refine call_is_sum_0 ?_ | refine call_is_ware_0 ?_ | refine call_check_goods_0 ?_ | refine call_check_sum_0 ?_ | refine call_House_M___init___0 ?_ | refine call__law_sort_0 ?_ | refine call__law_refused_0 ?_); (with_reducible conv => whnf))
    (with_reducible conv => whnf); repeat ((first | refine ite_t rfl ?_ | refine ite_f rfl ?_ | rw [atI_0] | rw [atI_1] | refine nat_ok rfl ?_ | refine len_k rfl ?_ | refine call__law_pool_0 ?_ | refine call__law_take_0 ?_ | refine call__law_drawn_0 ?_ | refine call__law_is_name_0 ?_ | refine call_is_name_0 ?_ | refine call_is_name_1 ?_ | refine call_is_whole_0 ?_ | refine call_is_between_0 ?_ | refine call_divisor_0 ?_ | refine call_is_share_0 ?_ | refine call_are_shares_0 ?_ | refine call_parts_by_0 ?_ | refine call_split_by_0 ?_ | refine call_parted_0 ?_ | refine call_is_day_0 ?_ | refine call_is_death_0 ?_ | refine call_check_deaths_0 ?_ | refine call_Story_M___init___0 ?_ | refine call_is_person_0 ?_ | refine call_check_people_0 ?_ | refine call_is_sum_0 ?_ | refine call_is_ware_0 ?_ | refine call_check_goods_0 ?_ | refine call_check_sum_0 ?_ | refine call_House_M___init___0 ?_ | refine call__law_sort_0 ?_ | refine call__law_refused_0 ?_); (with_reducible conv => whnf))
    refine ⟨rfl, rfl, ?_⟩
    refine ite_t ?_ ?_; focus decide +kernel
    (with_reducible conv => whnf); repeat ((first | refine ite_t rfl ?_ | refine ite_f rfl ?_ | rw [atI_0] | rw [atI_1] | refine nat_ok rfl ?_ | refine len_k rfl ?_ | refine call__law_pool_0 ?_ | refine call__law_take_0 ?_ | refine call__law_drawn_0 ?_ | refine call__law_is_name_0 ?_ | refine call_is_name_0 ?_ | refine call_is_name_1 ?_ | refine call_is_whole_0 ?_ | refine call_is_between_0 ?_ | refine call_divisor_0 ?_ | refine call_is_share_0 ?_ | refine call_are_shares_0 ?_ | refine call_parts_by_0 ?_ | refine call_split_by_0 ?_ | refine call_parted_0 ?_ | refine call_is_day_0 ?_ | refine call_is_death_0 ?_ | refine call_check_deaths_0 ?_ | refine call_Story_M___init___0 ?_ | refine call_is_person_0 ?_ | refine call_check_people_0 ?_ | refine call_is_sum_0 ?_ | refine call_is_ware_0 ?_ | refine call_check_goods_0 ?_ | refine call_check_sum_0 ?_ | refine call_House_M___init___0 ?_ | refine call__law_sort_0 ?_ | refine call__law_refused_0 ?_); (with_reducible conv => whnf))
    refine ⟨xfl_NoStory, ?_⟩
    conv in posF _ _ => change some 0
    (with_reducible conv => whnf); repeat ((first | refine ite_t rfl ?_ | refine ite_f rfl ?_ | rw [atI_0] | rw [atI_1] | refine nat_ok rfl ?_ | refine len_k rfl ?_ | refine call__law_pool_0 ?_ | refine call__law_take_0 ?_ | refine call__law_drawn_0 ?_ | refine call__law_is_name_0 ?_ | refine call_is_name_0 ?_ | refine call_is_name_1 ?_ | refine call_is_whole_0 ?_ | refine call_is_between_0 ?_ | refine call_divisor_0 ?_ | refine call_is_share_0 ?_ | refine call_are_shares_0 ?_ | refine call_parts_by_0 ?_ | refine call_split_by_0 ?_ | refine call_parted_0 ?_ | refine call_is_day_0 ?_ | refine call_is_death_0 ?_ | refine call_check_deaths_0 ?_ | refine call_Story_M___init___0 ?_ | refine call_is_person_0 ?_ | refine call_check_people_0 ?_ | refine call_is_sum_0 ?_ | refine call_is_ware_0 ?_ | refine call_check_goods_0 ?_ | refine call_check_sum_0 ?_ | refine call_House_M___init___0 ?_ | refine call__law_sort_0 ?_ | refine call__law_refused_0 ?_); (with_reducible conv => whnf))
    exact hQ _ (.new ha)
  · refine seq_c fun K hK => ?_; (with_reducible conv => whnf); repeat ((first | refine ite_t rfl ?_ | refine ite_f rfl ?_ | rw [atI_0] | rw [atI_1] | refine nat_ok rfl ?_ | refine len_k rfl ?_ | refine call__law_pool_0 ?_ | refine call__law_take_0 ?_ | refine call__law_drawn_0 ?_ | refine call__law_is_name_0 ?_ | refine call_is_name_0 ?_ | refine call_is_name_1 ?_ | refine call_is_whole_0 ?_ | refine call_is_between_0 ?_ | refine call_divisor_0 ?_ | refine call_is_share_0 ?_ | refine call_are_shares_0 ?_ | refine call_parts_by_0 ?_ | refine call_split_by_0 ?_ | refine call_parted_0 ?_ | refine call_is_day_0 ?_ | refine call_is_death_0 ?_ | refine call_check_deaths_0 ?_ | refine call_Story_M___init___0 ?_ | refine call_is_person_0 ?_ | refine call_check_people_0 ?_ | refine call_is_sum_0 ?_ | refine call_is_ware_0 ?_ | refine call_check_goods_0 ?_ | refine call_check_sum_0 ?_ | refine call_House_M___init___0 ?_ | refine call__law_sort_0 ?_ | refine call__law_refused_0 ?_); (with_reducible conv => whnf))
    refine hK _ _ ?_; clear hK K
    refine seq_c fun K hK => ?_; (with_reducible conv => whnf); repeat ((first | refine ite_t rfl ?_ | refine ite_f rfl ?_ | rw [atI_0] | rw [atI_1] | refine nat_ok rfl ?_ | refine len_k rfl ?_ | refine call__law_pool_0 ?_ | refine call__law_take_0 ?_ | refine call__law_drawn_0 ?_ | refine call__law_is_name_0 ?_ | refine call_is_name_0 ?_ | refine call_is_name_1 ?_ | refine call_is_whole_0 ?_ | refine call_is_between_0 ?_ | refine call_divisor_0 ?_ | refine call_is_share_0 ?_ | refine call_are_shares_0 ?_ | refine call_parts_by_0 ?_ | refine call_split_by_0 ?_ | refine call_parted_0 ?_ | refine call_is_day_0 ?_ | refine call_is_death_0 ?_ | refine call_check_deaths_0 ?_ | refine call_Story_M___init___0 ?_ | refine call_is_person_0 ?_ | refine call_check_people_0 ?_ | refine call_is_sum_0 ?_ | refine call_is_ware_0 ?_ | refine call_check_goods_0 ?_ | refine call_check_sum_0 ?_ | refine call_House_M___init___0 ?_ | refine call__law_sort_0 ?_ | refine call__law_refused_0 ?_); (with_reducible conv => whnf))
    intro a ha
    (with_reducible conv => whnf); repeat ((first | refine ite_t rfl ?_ | refine ite_f rfl ?_ | rw [atI_0] | rw [atI_1] | refine nat_ok rfl ?_ | refine len_k rfl ?_ | refine call__law_pool_0 ?_ | refine call__law_take_0 ?_ | refine call__law_drawn_0 ?_ | refine call__law_is_name_0 ?_ | refine call_is_name_0 ?_ | refine call_is_name_1 ?_ | refine call_is_whole_0 ?_ | refine call_is_between_0 ?_ | refine call_divisor_0 ?_ | refine call_is_share_0 ?_ | refine call_are_shares_0 ?_ | refine call_parts_by_0 ?_ | refine call_split_by_0 ?_ | refine call_parted_0 ?_ | refine call_is_day_0 ?_ | refine call_is_death_0 ?_ | refine call_check_deaths_0 ?_ | refine call_Story_M___init___0 ?_ | refine call_is_person_0 ?_ | refine call_check_people_0 ?_ | refine call_is_sum_0 ?_ | refine call_is_ware_0 ?_ | refine call_check_goods_0 ?_ | refine call_check_sum_0 ?_ | refine call_House_M___init___0 ?_ | refine call__law_sort_0 ?_ | refine call__law_refused_0 ?_); (with_reducible conv => whnf))
    refine ⟨a, d, .non, rfl, hb, fun h' he => ?_⟩
    (with_reducible conv => whnf); repeat ((first | refine ite_t rfl ?_ | refine ite_f rfl ?_ | rw [atI_0] | rw [atI_1] | refine nat_ok rfl ?_ | refine len_k rfl ?_ | refine call__law_pool_0 ?_ | refine call__law_take_0 ?_ | refine call__law_drawn_0 ?_ | refine call__law_is_name_0 ?_ | refine call_is_name_0 ?_ | refine call_is_name_1 ?_ | refine call_is_whole_0 ?_ | refine call_is_between_0 ?_ | refine call_divisor_0 ?_ | refine call_is_share_0 ?_ | refine call_are_shares_0 ?_ | refine call_parts_by_0 ?_ | refine call_split_by_0 ?_ | refine call_parted_0 ?_ | refine call_is_day_0 ?_ | refine call_is_death_0 ?_ | refine call_check_deaths_0 ?_ | refine call_Story_M___init___0 ?_ | refine call_is_person_0 ?_ | refine call_check_people_0 ?_ | refine call_is_sum_0 ?_ | refine call_is_ware_0 ?_ | refine call_check_goods_0 ?_ | refine call_check_sum_0 ?_ | refine call_House_M___init___0 ?_ | refine call__law_sort_0 ?_ | refine call__law_refused_0 ?_); (with_reducible conv => whnf))
    rw [sub_NoPeople_WordError]
    (with_reducible conv => whnf); repeat ((first | refine ite_t rfl ?_ | refine ite_f rfl ?_ | rw [atI_0] | rw [atI_1] | refine nat_ok rfl ?_ | refine len_k rfl ?_ | refine call__law_pool_0 ?_ | refine call__law_take_0 ?_ | refine call__law_drawn_0 ?_ | refine call__law_is_name_0 ?_ | refine call_is_name_0 ?_ | refine call_is_name_1 ?_ | refine call_is_whole_0 ?_ | refine call_is_between_0 ?_ | refine call_divisor_0 ?_ | refine call_is_share_0 ?_ | refine call_are_shares_0 ?_ | refine call_parts_by_0 ?_ | refine call_split_by_0 ?_ | refine call_parted_0 ?_ | refine call_is_day_0 ?_ | refine call_is_death_0 ?_ | refine call_check_deaths_0 ?_ | refine call_Story_M___init___0 ?_ | refine call_is_person_0 ?_ | refine call_check_people_0 ?_ | refine call_is_sum_0 ?_ | refine call_is_ware_0 ?_ | refine call_check_goods_0 ?_ | refine call_check_sum_0 ?_ | refine call_House_M___init___0 ?_ | refine call__law_sort_0 ?_ | refine call__law_refused_0 ?_); (with_reducible conv => whnf))
    refine hK _ _ ?_; clear hK K
    refine seq_c fun K hK => ?_; (with_reducible conv => whnf); repeat ((first | refine ite_t rfl ?_ | refine ite_f rfl ?_ | rw [atI_0] | rw [atI_1] | refine nat_ok rfl ?_ | refine len_k rfl ?_ | refine call__law_pool_0 ?_ | refine call__law_take_0 ?_ | refine call__law_drawn_0 ?_ | refine call__law_is_name_0 ?_ | refine call_is_name_0 ?_ | refine call_is_name_1 ?_ | refine call_is_whole_0 ?_ | refine call_is_between_0 ?_ | refine call_divisor_0 ?_ | refine call_is_share_0 ?_ | refine call_are_shares_0 ?_ | refine call_parts_by_0 ?_ | refine call_split_by_0 ?_ | refine call_parted_0 ?_ | refine call_is_day_0 ?_ | refine call_is_death_0 ?_ | refine call_check_deaths_0 ?_ | refine call_Story_M___init___0 ?_ | refine call_is_person_0 ?_ | refine call_check_people_0 ?_ | refine call_is_sum_0 ?_ | refine call_is_ware_0 ?_ | refine call_check_goods_0 ?_ | refine call_check_sum_0 ?_ | refine call_House_M___init___0 ?_ | refine call__law_sort_0 ?_ | refine call__law_refused_0 ?_); (with_reducible conv => whnf))
    refine ⟨"NoPeople", "number", .int 0, "people", rfl, .inr (.inr ⟨rfl, rfl⟩), ?_⟩
    refine hK _ _ ?_; clear hK K
    refine seq_c fun K hK => ?_; (with_reducible conv => whnf); repeat ((first | refine ite_t rfl ?_ | refine ite_f rfl ?_ | rw [atI_0] | rw [atI_1] | refine nat_ok rfl ?_ | refine len_k rfl ?_ | refine call__law_pool_0 ?_ | refine call__law_take_0 ?_ | refine call__law_drawn_0 ?_ | refine call__law_is_name_0 ?_ | refine call_is_name_0 ?_ | refine call_is_name_1 ?_ | refine call_is_whole_0 ?_ | refine call_is_between_0 ?_ | refine call_divisor_0 ?_ | refine call_is_share_0 ?_ | refine call_are_shares_0 ?_ | refine call_parts_by_0 ?_ | refine call_split_by_0 ?_ | refine call_parted_0 ?_ | refine call_is_day_0 ?_ | refine call_is_death_0 ?_ | refine call_check_deaths_0 ?_ | refine call_Story_M___init___0 ?_ | refine call_is_person_0 ?_ | refine call_check_people_0 ?_ | refine call_is_sum_0 ?_ | refine call_is_ware_0 ?_ | refine call_check_goods_0 ?_ | refine call_check_sum_0 ?_ | refine call_House_M___init___0 ?_ | refine call__law_sort_0 ?_ | refine call__law_refused_0 ?_); (with_reducible conv => whnf))
    refine hK _ _ ?_; clear hK K
    refine seq_c fun K hK => ?_; (with_reducible conv => whnf); repeat ((first | refine ite_t rfl ?_ | refine ite_f rfl ?_ | rw [atI_0] | rw [atI_1] | refine nat_ok rfl ?_ | refine len_k rfl ?_ | refine call__law_pool_0 ?_ | refine call__law_take_0 ?_ | refine call__law_drawn_0 ?_ | refine call__law_is_name_0 ?_ | refine call_is_name_0 ?_ | refine call_is_name_1 ?_ | refine call_is_whole_0 ?_ | refine call_is_between_0 ?_ | refine call_divisor_0 ?_ | refine call_is_share_0 ?_ | refine call_are_shares_0 ?_ | refine call_parts_by_0 ?_ | refine call_split_by_0 ?_ | refine call_parted_0 ?_ | refine call_is_day_0 ?_ | refine call_is_death_0 ?_ | refine call_check_deaths_0 ?_ | refine call_Story_M___init___0 ?_ | refine call_is_person_0 ?_ | refine call_check_people_0 ?_ | refine call_is_sum_0 ?_ | refine call_is_ware_0 ?_ | refine call_check_goods_0 ?_ | refine call_check_sum_0 ?_ | refine call_House_M___init___0 ?_ | refine call__law_sort_0 ?_ | refine call__law_refused_0 ?_); (with_reducible conv => whnf))
    (with_reducible conv => whnf); repeat ((first | refine ite_t rfl ?_ | refine ite_f rfl ?_ | rw [atI_0] | rw [atI_1] | refine nat_ok rfl ?_ | refine len_k rfl ?_ | refine call__law_pool_0 ?_ | refine call__law_take_0 ?_ | refine call__law_drawn_0 ?_ | refine call__law_is_name_0 ?_ | refine call_is_name_0 ?_ | refine call_is_name_1 ?_ | refine call_is_whole_0 ?_ | refine call_is_between_0 ?_ | refine call_divisor_0 ?_ | refine call_is_share_0 ?_ | refine call_are_shares_0 ?_ | refine call_parts_by_0 ?_ | refine call_split_by_0 ?_ | refine call_parted_0 ?_ | refine call_is_day_0 ?_ | refine call_is_death_0 ?_ | refine call_check_deaths_0 ?_ | refine call_Story_M___init___0 ?_ | refine call_is_person_0 ?_ | refine call_check_people_0 ?_ | refine call_is_sum_0 ?_ | refine call_is_ware_0 ?_ | refine call_check_goods_0 ?_ | refine call_check_sum_0 ?_ | refine call_House_M___init___0 ?_ | refine call__law_sort_0 ?_ | refine call__law_refused_0 ?_); (with_reducible conv => whnf))
    refine ⟨rfl, rfl, ?_⟩
    refine ite_t ?_ ?_; focus decide +kernel
    (with_reducible conv => whnf); repeat ((first | refine ite_t rfl ?_ | refine ite_f rfl ?_ | rw [atI_0] | rw [atI_1] | refine nat_ok rfl ?_ | refine len_k rfl ?_ | refine call__law_pool_0 ?_ | refine call__law_take_0 ?_ | refine call__law_drawn_0 ?_ | refine call__law_is_name_0 ?_ | refine call_is_name_0 ?_ | refine call_is_name_1 ?_ | refine call_is_whole_0 ?_ | refine call_is_between_0 ?_ | refine call_divisor_0 ?_ | refine call_is_share_0 ?_ | refine call_are_shares_0 ?_ | refine call_parts_by_0 ?_ | refine call_split_by_0 ?_ | refine call_parted_0 ?_ | refine call_is_day_0 ?_ | refine call_is_death_0 ?_ | refine call_check_deaths_0 ?_ | refine call_Story_M___init___0 ?_ | refine call_is_person_0 ?_ | refine call_check_people_0 ?_ | refine call_is_sum_0 ?_ | refine call_is_ware_0 ?_ | refine call_check_goods_0 ?_ | refine call_check_sum_0 ?_ | refine call_House_M___init___0 ?_ | refine call__law_sort_0 ?_ | refine call__law_refused_0 ?_); (with_reducible conv => whnf))
    refine ⟨xfl_NoPeople, ?_⟩
    conv in posF _ _ => change some 0
    (with_reducible conv => whnf); repeat ((first | refine ite_t rfl ?_ | refine ite_f rfl ?_ | rw [atI_0] | rw [atI_1] | refine nat_ok rfl ?_ | refine len_k rfl ?_ | refine call__law_pool_0 ?_ | refine call__law_take_0 ?_ | refine call__law_drawn_0 ?_ | refine call__law_is_name_0 ?_ | refine call_is_name_0 ?_ | refine call_is_name_1 ?_ | refine call_is_whole_0 ?_ | refine call_is_between_0 ?_ | refine call_divisor_0 ?_ | refine call_is_share_0 ?_ | refine call_are_shares_0 ?_ | refine call_parts_by_0 ?_ | refine call_split_by_0 ?_ | refine call_parted_0 ?_ | refine call_is_day_0 ?_ | refine call_is_death_0 ?_ | refine call_check_deaths_0 ?_ | refine call_Story_M___init___0 ?_ | refine call_is_person_0 ?_ | refine call_check_people_0 ?_ | refine call_is_sum_0 ?_ | refine call_is_ware_0 ?_ | refine call_check_goods_0 ?_ | refine call_check_sum_0 ?_ | refine call_House_M___init___0 ?_ | refine call__law_sort_0 ?_ | refine call__law_refused_0 ?_); (with_reducible conv => whnf))
    exact hQ _ ((Ext.new ha).trans he)
end K01
namespace K01
open Y
open PySem (sizeLine Str Addr)
open L2 (atI ixN)
def signL : List Str := ["A", "0", " ", "-", "\n", "z", "Z", "."]
theorem atI_str {ws : List Str} {d : Nat} (h : d < ws.length) : ∃ x ∈ ws, atI (ws.map D.str) (d : Int) = some (.str x) := by
  refine ⟨ws[d], List.getElem_mem h, atI_nat ?_⟩
  rw [List.getElem?_map, List.getElem?_eq_getElem h]; rfl
theorem letters_at {d : Nat} (h : d < 26) : ∃ c, atI letS.cps.toList (d : Int) = some c := by
  refine ⟨letS.cps.toList[d]'(by show d < 26; exact h), atI_nat (List.getElem?_eq_getElem _)⟩
theorem w__law_drawn : Meets G N__law_drawn 1 b__law_drawn S__law_drawn := by
  rintro ds h Q Xd - ⟨a, n, rfl, ha, hQ⟩
  have hs : 1000 ≤ sizeLine := by decide
  refine seq_c fun K hK => ?_; (with_reducible conv => whnf); repeat ((first | refine ite_t rfl ?_ | refine ite_f rfl ?_ | rw [atI_0] | rw [atI_1] | refine nat_ok rfl ?_ | refine len_k rfl ?_ | refine call__law_pool_0 ?_ | refine call__law_take_0 ?_ | refine call__law_drawn_0 ?_ | refine call__law_is_name_0 ?_ | refine call_is_name_0 ?_ | refine call_is_name_1 ?_ | refine call_is_whole_0 ?_ | refine call_is_between_0 ?_ | refine call_divisor_0 ?_ | refine call_is_share_0 ?_ | refine call_are_shares_0 ?_ | refine call_parts_by_0 ?_ | refine call_split_by_0 ?_ | refine call_parted_0 ?_ | refine call_is_day_0 ?_ | refine call_is_death_0 ?_ | refine call_check_deaths_0 ?_ | refine call_Story_M___init___0 ?_ | refine call_is_person_0 ?_ | refine call_check_people_0 ?_ | refine call_is_sum_0 ?_ | refine call_is_ware_0 ?_ | refine call_check_goods_0 ?_ | refine call_check_sum_0 ?_ | refine call_House_M___init___0 ?_ | refine call__law_sort_0 ?_ | refine call__law_refused_0 ?_); (with_reducible conv => whnf))
  refine hK _ _ ?_; clear hK K
  refine seq_c fun K hK => ?_; (with_reducible conv => whnf); repeat ((first | refine ite_t rfl ?_ | refine ite_f rfl ?_ | rw [atI_0] | rw [atI_1] | refine nat_ok rfl ?_ | refine len_k rfl ?_ | refine call__law_pool_0 ?_ | refine call__law_take_0 ?_ | refine call__law_drawn_0 ?_ | refine call__law_is_name_0 ?_ | refine call_is_name_0 ?_ | refine call_is_name_1 ?_ | refine call_is_whole_0 ?_ | refine call_is_between_0 ?_ | refine call_divisor_0 ?_ | refine call_is_share_0 ?_ | refine call_are_shares_0 ?_ | refine call_parts_by_0 ?_ | refine call_split_by_0 ?_ | refine call_parted_0 ?_ | refine call_is_day_0 ?_ | refine call_is_death_0 ?_ | refine call_check_deaths_0 ?_ | refine call_Story_M___init___0 ?_ | refine call_is_person_0 ?_ | refine call_check_people_0 ?_ | refine call_is_sum_0 ?_ | refine call_is_ware_0 ?_ | refine call_check_goods_0 ?_ | refine call_check_sum_0 ?_ | refine call_House_M___init___0 ?_ | refine call__law_sort_0 ?_ | refine call__law_refused_0 ?_); (with_reducible conv => whnf))
  refine ⟨a, n, 13, rfl, ha, by decide, by decide, fun d1 n1 hd1 => ?_⟩
  (with_reducible conv => whnf); repeat ((first | refine ite_t rfl ?_ | refine ite_f rfl ?_ | rw [atI_0] | rw [atI_1] | refine nat_ok rfl ?_ | refine len_k rfl ?_ | refine call__law_pool_0 ?_ | refine call__law_take_0 ?_ | refine call__law_drawn_0 ?_ | refine call__law_is_name_0 ?_ | refine call_is_name_0 ?_ | refine call_is_name_1 ?_ | refine call_is_whole_0 ?_ | refine call_is_between_0 ?_ | refine call_divisor_0 ?_ | refine call_is_share_0 ?_ | refine call_are_shares_0 ?_ | refine call_parts_by_0 ?_ | refine call_split_by_0 ?_ | refine call_parted_0 ?_ | refine call_is_day_0 ?_ | refine call_is_death_0 ?_ | refine call_check_deaths_0 ?_ | refine call_Story_M___init___0 ?_ | refine call_is_person_0 ?_ | refine call_check_people_0 ?_ | refine call_is_sum_0 ?_ | refine call_is_ware_0 ?_ | refine call_check_goods_0 ?_ | refine call_check_sum_0 ?_ | refine call_House_M___init___0 ?_ | refine call__law_sort_0 ?_ | refine call__law_refused_0 ?_); (with_reducible conv => whnf))
  obtain ⟨x1, hx1, e1⟩ := atI_str (ws := wordL) (d := d1) (by show d1 < 13; omega)
  have lx1 : x1.length ≤ 10 := (by decide : ∀ z ∈ wordL, z.length ≤ 10) x1 hx1
  conv in atI _ _ => change atI (wordL.map D.str) (d1 : Int)
  rw [e1]
  (with_reducible conv => whnf); repeat ((first | refine ite_t rfl ?_ | refine ite_f rfl ?_ | rw [atI_0] | rw [atI_1] | refine nat_ok rfl ?_ | refine len_k rfl ?_ | refine call__law_pool_0 ?_ | refine call__law_take_0 ?_ | refine call__law_drawn_0 ?_ | refine call__law_is_name_0 ?_ | refine call_is_name_0 ?_ | refine call_is_name_1 ?_ | refine call_is_whole_0 ?_ | refine call_is_between_0 ?_ | refine call_divisor_0 ?_ | refine call_is_share_0 ?_ | refine call_are_shares_0 ?_ | refine call_parts_by_0 ?_ | refine call_split_by_0 ?_ | refine call_parted_0 ?_ | refine call_is_day_0 ?_ | refine call_is_death_0 ?_ | refine call_check_deaths_0 ?_ | refine call_Story_M___init___0 ?_ | refine call_is_person_0 ?_ | refine call_check_people_0 ?_ | refine call_is_sum_0 ?_ | refine call_is_ware_0 ?_ | refine call_check_goods_0 ?_ | refine call_check_sum_0 ?_ | refine call_House_M___init___0 ?_ | refine call__law_sort_0 ?_ | refine call__law_refused_0 ?_); (with_reducible conv => whnf))
  refine hK _ _ ?_; clear hK K
  refine seq_c fun K hK => ?_; (with_reducible conv => whnf); repeat ((first | refine ite_t rfl ?_ | refine ite_f rfl ?_ | rw [atI_0] | rw [atI_1] | refine nat_ok rfl ?_ | refine len_k rfl ?_ | refine call__law_pool_0 ?_ | refine call__law_take_0 ?_ | refine call__law_drawn_0 ?_ | refine call__law_is_name_0 ?_ | refine call_is_name_0 ?_ | refine call_is_name_1 ?_ | refine call_is_whole_0 ?_ | refine call_is_between_0 ?_ | refine call_divisor_0 ?_ | refine call_is_share_0 ?_ | refine call_are_shares_0 ?_ | refine call_parts_by_0 ?_ | refine call_split_by_0 ?_ | refine call_parted_0 ?_ | refine call_is_day_0 ?_ | refine call_is_death_0 ?_ | refine call_check_deaths_0 ?_ | refine call_Story_M___init___0 ?_ | refine call_is_person_0 ?_ | refine call_check_people_0 ?_ | refine call_is_sum_0 ?_ | refine call_is_ware_0 ?_ | refine call_check_goods_0 ?_ | refine call_check_sum_0 ?_ | refine call_House_M___init___0 ?_ | refine call__law_sort_0 ?_ | refine call__law_refused_0 ?_); (with_reducible conv => whnf))
  have hK2 : ∀ (x : Str) (o : Option D) (m : Int), x.length ≤ 10 → K [some (.ref a), some (.lst wordD), some (.str x), o, none, none, none] (hupd h a (.lst [.int m])) := by
    intro x o m hx
    refine hK _ _ ?_
    clear hK K
    have c : ∀ lo hi, (L2.cutS x lo hi).length ≤ 10 := fun lo hi => Nat.le_trans cutS_len hx
    refine seq_c fun K hK => ?_; (with_reducible conv => whnf); repeat ((first | refine ite_t rfl ?_ | refine ite_f rfl ?_ | rw [atI_0] | rw [atI_1] | refine nat_ok rfl ?_ | refine len_k rfl ?_ | refine call__law_pool_0 ?_ | refine call__law_take_0 ?_ | refine call__law_drawn_0 ?_ | refine call__law_is_name_0 ?_ | refine call_is_name_0 ?_ | refine call_is_name_1 ?_ | refine call_is_whole_0 ?_ | refine call_is_between_0 ?_ | refine call_divisor_0 ?_ | refine call_is_share_0 ?_ | refine call_are_shares_0 ?_ | refine call_parts_by_0 ?_ | refine call_split_by_0 ?_ | refine call_parted_0 ?_ | refine call_is_day_0 ?_ | refine call_is_death_0 ?_ | refine call_check_deaths_0 ?_ | refine call_Story_M___init___0 ?_ | refine call_is_person_0 ?_ | refine call_check_people_0 ?_ | refine call_is_sum_0 ?_ | refine call_is_ware_0 ?_ | refine call_check_goods_0 ?_ | refine call_check_sum_0 ?_ | refine call_House_M___init___0 ?_ | refine call__law_sort_0 ?_ | refine call__law_refused_0 ?_); (with_reducible conv => whnf))
    refine ⟨by omega, ?_⟩
    (with_reducible conv => whnf); repeat ((first | refine ite_t rfl ?_ | refine ite_f rfl ?_ | rw [atI_0] | rw [atI_1] | refine nat_ok rfl ?_ | refine len_k rfl ?_ | refine call__law_pool_0 ?_ | refine call__law_take_0 ?_ | refine call__law_drawn_0 ?_ | refine call__law_is_name_0 ?_ | refine call_is_name_0 ?_ | refine call_is_name_1 ?_ | refine call_is_whole_0 ?_ | refine call_is_between_0 ?_ | refine call_divisor_0 ?_ | refine call_is_share_0 ?_ | refine call_are_shares_0 ?_ | refine call_parts_by_0 ?_ | refine call_split_by_0 ?_ | refine call_parted_0 ?_ | refine call_is_day_0 ?_ | refine call_is_death_0 ?_ | refine call_check_deaths_0 ?_ | refine call_Story_M___init___0 ?_ | refine call_is_person_0 ?_ | refine call_check_people_0 ?_ | refine call_is_sum_0 ?_ | refine call_is_ware_0 ?_ | refine call_check_goods_0 ?_ | refine call_check_sum_0 ?_ | refine call_House_M___init___0 ?_ | refine call__law_sort_0 ?_ | refine call__law_refused_0 ?_); (with_reducible conv => whnf))
    refine ⟨a, m, (x.length : Int) + 1, rfl, hupd_same, by omega, by omega, fun d n' hd => ?_⟩
    rw [hupd_hupd]
    (with_reducible conv => whnf); repeat ((first | refine ite_t rfl ?_ | refine ite_f rfl ?_ | rw [atI_0] | rw [atI_1] | refine nat_ok rfl ?_ | refine len_k rfl ?_ | refine call__law_pool_0 ?_ | refine call__law_take_0 ?_ | refine call__law_drawn_0 ?_ | refine call__law_is_name_0 ?_ | refine call_is_name_0 ?_ | refine call_is_name_1 ?_ | refine call_is_whole_0 ?_ | refine call_is_between_0 ?_ | refine call_divisor_0 ?_ | refine call_is_share_0 ?_ | refine call_are_shares_0 ?_ | refine call_parts_by_0 ?_ | refine call_split_by_0 ?_ | refine call_parted_0 ?_ | refine call_is_day_0 ?_ | refine call_is_death_0 ?_ | refine call_check_deaths_0 ?_ | refine call_Story_M___init___0 ?_ | refine call_is_person_0 ?_ | refine call_check_people_0 ?_ | refine call_is_sum_0 ?_ | refine call_is_ware_0 ?_ | refine call_check_goods_0 ?_ | refine call_check_sum_0 ?_ | refine call_House_M___init___0 ?_ | refine call__law_sort_0 ?_ | refine call__law_refused_0 ?_); (with_reducible conv => whnf))
    refine hK _ _ ?_; clear hK K
    refine seq_c fun K hK => ?_; (with_reducible conv => whnf); repeat ((first | refine ite_t rfl ?_ | refine ite_f rfl ?_ | rw [atI_0] | rw [atI_1] | refine nat_ok rfl ?_ | refine len_k rfl ?_ | refine call__law_pool_0 ?_ | refine call__law_take_0 ?_ | refine call__law_drawn_0 ?_ | refine call__law_is_name_0 ?_ | refine call_is_name_0 ?_ | refine call_is_name_1 ?_ | refine call_is_whole_0 ?_ | refine call_is_between_0 ?_ | refine call_divisor_0 ?_ | refine call_is_share_0 ?_ | refine call_are_shares_0 ?_ | refine call_parts_by_0 ?_ | refine call_split_by_0 ?_ | refine call_parted_0 ?_ | refine call_is_day_0 ?_ | refine call_is_death_0 ?_ | refine call_check_deaths_0 ?_ | refine call_Story_M___init___0 ?_ | refine call_is_person_0 ?_ | refine call_check_people_0 ?_ | refine call_is_sum_0 ?_ | refine call_is_ware_0 ?_ | refine call_check_goods_0 ?_ | refine call_check_sum_0 ?_ | refine call_House_M___init___0 ?_ | refine call__law_sort_0 ?_ | refine call__law_refused_0 ?_); (with_reducible conv => whnf))
    refine ⟨a, n', 8, rfl, hupd_same, by decide, by decide, fun d2 n2 hd2 => ?_⟩
    rw [hupd_hupd]
    (with_reducible conv => whnf); repeat ((first | refine ite_t rfl ?_ | refine ite_f rfl ?_ | rw [atI_0] | rw [atI_1] | refine nat_ok rfl ?_ | refine len_k rfl ?_ | refine call__law_pool_0 ?_ | refine call__law_take_0 ?_ | refine call__law_drawn_0 ?_ | refine call__law_is_name_0 ?_ | refine call_is_name_0 ?_ | refine call_is_name_1 ?_ | refine call_is_whole_0 ?_ | refine call_is_between_0 ?_ | refine call_divisor_0 ?_ | refine call_is_share_0 ?_ | refine call_are_shares_0 ?_ | refine call_parts_by_0 ?_ | refine call_split_by_0 ?_ | refine call_parted_0 ?_ | refine call_is_day_0 ?_ | refine call_is_death_0 ?_ | refine call_check_deaths_0 ?_ | refine call_Story_M___init___0 ?_ | refine call_is_person_0 ?_ | refine call_check_people_0 ?_ | refine call_is_sum_0 ?_ | refine call_is_ware_0 ?_ | refine call_check_goods_0 ?_ | refine call_check_sum_0 ?_ | refine call_House_M___init___0 ?_ | refine call__law_sort_0 ?_ | refine call__law_refused_0 ?_); (with_reducible conv => whnf))
    obtain ⟨y, hy, e2⟩ := atI_str (ws := signL) (d := d2) (by show d2 < 8; omega)
    have ly : y.length ≤ 1 := (by decide : ∀ z ∈ signL, z.length ≤ 1) y hy
    conv in atI _ _ => change atI (signL.map D.str) (d2 : Int)
    rw [e2]
    (with_reducible conv => whnf); repeat ((first | refine ite_t rfl ?_ | refine ite_f rfl ?_ | rw [atI_0] | rw [atI_1] | refine nat_ok rfl ?_ | refine len_k rfl ?_ | refine call__law_pool_0 ?_ | refine call__law_take_0 ?_ | refine call__law_drawn_0 ?_ | refine call__law_is_name_0 ?_ | refine call_is_name_0 ?_ | refine call_is_name_1 ?_ | refine call_is_whole_0 ?_ | refine call_is_between_0 ?_ | refine call_divisor_0 ?_ | refine call_is_share_0 ?_ | refine call_are_shares_0 ?_ | refine call_parts_by_0 ?_ | refine call_split_by_0 ?_ | refine call_parted_0 ?_ | refine call_is_day_0 ?_ | refine call_is_death_0 ?_ | refine call_check_deaths_0 ?_ | refine call_Story_M___init___0 ?_ | refine call_is_person_0 ?_ | refine call_check_people_0 ?_ | refine call_is_sum_0 ?_ | refine call_is_ware_0 ?_ | refine call_check_goods_0 ?_ | refine call_check_sum_0 ?_ | refine call_House_M___init___0 ?_ | refine call__law_sort_0 ?_ | refine call__law_refused_0 ?_); (with_reducible conv => whnf))
    refine hK _ _ ?_; clear hK K
    have c1 := c none (some (d : Int))
    have c2 := c (some (d : Int)) none
    have c3 := c (some ((d : Int) + 1)) none
    refine seq_c fun K hK => ?_; (with_reducible conv => whnf); repeat ((first | refine ite_t rfl ?_ | refine ite_f rfl ?_ | rw [atI_0] | rw [atI_1] | refine nat_ok rfl ?_ | refine len_k rfl ?_ | refine call__law_pool_0 ?_ | refine call__law_take_0 ?_ | refine call__law_drawn_0 ?_ | refine call__law_is_name_0 ?_ | refine call_is_name_0 ?_ | refine call_is_name_1 ?_ | refine call_is_whole_0 ?_ | refine call_is_between_0 ?_ | refine call_divisor_0 ?_ | refine call_is_share_0 ?_ | refine call_are_shares_0 ?_ | refine call_parts_by_0 ?_ | refine call_split_by_0 ?_ | refine call_parted_0 ?_ | refine call_is_day_0 ?_ | refine call_is_death_0 ?_ | refine call_check_deaths_0 ?_ | refine call_Story_M___init___0 ?_ | refine call_is_person_0 ?_ | refine call_check_people_0 ?_ | refine call_is_sum_0 ?_ | refine call_is_ware_0 ?_ | refine call_check_goods_0 ?_ | refine call_check_sum_0 ?_ | refine call_House_M___init___0 ?_ | refine call__law_sort_0 ?_ | refine call__law_refused_0 ?_); (with_reducible conv => whnf))
    repeat (refine le_and (by first | omega | (simp only [app_len]; omega)) ?_; (with_reducible conv => whnf); repeat ((first | refine ite_t rfl ?_ | refine ite_f rfl ?_ | rw [atI_0] | rw [atI_1] | refine nat_ok rfl ?_ | refine len_k rfl ?_ | refine call__law_pool_0 ?_ | refine call__law_take_0 ?_ | refine call__law_drawn_0 ?_ | refine call__law_is_name_0 ?_ | refine call_is_name_0 ?_ | refine call_is_name_1 ?_ | refine call_is_whole_0 ?_ | refine call_is_between_0 ?_ | refine call_divisor_0 ?_ | refine call_is_share_0 ?_ | refine call_are_shares_0 ?_ | refine call_parts_by_0 ?_ | refine call_split_by_0 ?_ | refine call_parted_0 ?_ | refine call_is_day_0 ?_ | refine call_is_death_0 ?_ | refine call_check_deaths_0 ?_ | refine call_Story_M___init___0 ?_ | refine call_is_person_0 ?_ | refine call_check_people_0 ?_ | refine call_is_sum_0 ?_ | refine call_is_ware_0 ?_ | refine call_check_goods_0 ?_ | refine call_check_sum_0 ?_ | refine call_House_M___init___0 ?_ | refine call__law_sort_0 ?_ | refine call__law_refused_0 ?_); (with_reducible conv => whnf)))
    refine hK _ _ ?_; clear hK K
    (with_reducible conv => whnf); repeat ((first | refine ite_t rfl ?_ | refine ite_f rfl ?_ | rw [atI_0] | rw [atI_1] | refine nat_ok rfl ?_ | refine len_k rfl ?_ | refine call__law_pool_0 ?_ | refine call__law_take_0 ?_ | refine call__law_drawn_0 ?_ | refine call__law_is_name_0 ?_ | refine call_is_name_0 ?_ | refine call_is_name_1 ?_ | refine call_is_whole_0 ?_ | refine call_is_between_0 ?_ | refine call_divisor_0 ?_ | refine call_is_share_0 ?_ | refine call_are_shares_0 ?_ | refine call_parts_by_0 ?_ | refine call_split_by_0 ?_ | refine call_parted_0 ?_ | refine call_is_day_0 ?_ | refine call_is_death_0 ?_ | refine call_check_deaths_0 ?_ | refine call_Story_M___init___0 ?_ | refine call_is_person_0 ?_ | refine call_check_people_0 ?_ | refine call_is_sum_0 ?_ | refine call_is_ware_0 ?_ | refine call_check_goods_0 ?_ | refine call_check_sum_0 ?_ | refine call_House_M___init___0 ?_ | refine call__law_sort_0 ?_ | refine call__law_refused_0 ?_); (with_reducible conv => whnf))
    repeat ((first | refine le_and (by first | omega | (simp only [app_len]; omega)) ?_ | refine and_str ?_); (with_reducible conv => whnf); repeat ((first | refine ite_t rfl ?_ | refine ite_f rfl ?_ | rw [atI_0] | rw [atI_1] | refine nat_ok rfl ?_ | refine len_k rfl ?_ | refine call__law_pool_0 ?_ | refine call__law_take_0 ?_ | refine call__law_drawn_0 ?_ | refine call__law_is_name_0 ?_ | refine call_is_name_0 ?_ | refine call_is_name_1 ?_ | refine call_is_whole_0 ?_ | refine call_is_between_0 ?_ | refine call_divisor_0 ?_ | refine call_is_share_0 ?_ | refine call_are_shares_0 ?_ | refine call_parts_by_0 ?_ | refine call_split_by_0 ?_ | refine call_parted_0 ?_ | refine call_is_day_0 ?_ | refine call_is_death_0 ?_ | refine call_check_deaths_0 ?_ | refine call_Story_M___init___0 ?_ | refine call_is_person_0 ?_ | refine call_check_people_0 ?_ | refine call_is_sum_0 ?_ | refine call_is_ware_0 ?_ | refine call_check_goods_0 ?_ | refine call_check_sum_0 ?_ | refine call_House_M___init___0 ?_ | refine call__law_sort_0 ?_ | refine call__law_refused_0 ?_); (with_reducible conv => whnf)))
    refine ⟨a, n2, 6, rfl, hupd_same, by decide, by decide, fun d3 n3 hd3 => ?_⟩
    rw [hupd_hupd]
    (with_reducible conv => whnf); repeat ((first | refine ite_t rfl ?_ | refine ite_f rfl ?_ | rw [atI_0] | rw [atI_1] | refine nat_ok rfl ?_ | refine len_k rfl ?_ | refine call__law_pool_0 ?_ | refine call__law_take_0 ?_ | refine call__law_drawn_0 ?_ | refine call__law_is_name_0 ?_ | refine call_is_name_0 ?_ | refine call_is_name_1 ?_ | refine call_is_whole_0 ?_ | refine call_is_between_0 ?_ | refine call_divisor_0 ?_ | refine call_is_share_0 ?_ | refine call_are_shares_0 ?_ | refine call_parts_by_0 ?_ | refine call_split_by_0 ?_ | refine call_parted_0 ?_ | refine call_is_day_0 ?_ | refine call_is_death_0 ?_ | refine call_check_deaths_0 ?_ | refine call_Story_M___init___0 ?_ | refine call_is_person_0 ?_ | refine call_check_people_0 ?_ | refine call_is_sum_0 ?_ | refine call_is_ware_0 ?_ | refine call_check_goods_0 ?_ | refine call_check_sum_0 ?_ | refine call_House_M___init___0 ?_ | refine call__law_sort_0 ?_ | refine call__law_refused_0 ?_); (with_reducible conv => whnf))
    obtain ⟨z, hz, ez⟩ := atI_str (ws := [x, x, L2.cutS x none (some (d : Int)) ++ y ++ L2.cutS x (some (d : Int)) none, L2.cutS x none (some (d : Int)) ++ L2.cutS x (some ((d : Int) + 1)) none, L2.cutS x none (some (d : Int)) ++ y ++ L2.cutS x (some ((d : Int) + 1)) none, PySem.Txt.upper x]) (d := d3) (by show d3 < 6; omega)
    have lu : (PySem.Txt.upper x).length ≤ 64 := by
      have := PyProof.Rows.len_upper x
      omega
    have lz : z.length ≤ 64 := by
      simp only [List.mem_cons, List.not_mem_nil, or_false] at hz
      rcases hz with rfl | rfl | rfl | rfl | rfl | rfl
      · omega
      · omega
      · simp only [app_len]; omega
      · simp only [app_len]; omega
      · simp only [app_len]; omega
      · exact lu
    conv in atI _ _ => change atI ([x, x, L2.cutS x none (some (d : Int)) ++ y ++ L2.cutS x (some (d : Int)) none, L2.cutS x none (some (d : Int)) ++ L2.cutS x (some ((d : Int) + 1)) none, L2.cutS x none (some (d : Int)) ++ y ++ L2.cutS x (some ((d : Int) + 1)) none, PySem.Txt.upper x].map D.str) (d3 : Int)
    rw [ez]
    (with_reducible conv => whnf); repeat ((first | refine ite_t rfl ?_ | refine ite_f rfl ?_ | rw [atI_0] | rw [atI_1] | refine nat_ok rfl ?_ | refine len_k rfl ?_ | refine call__law_pool_0 ?_ | refine call__law_take_0 ?_ | refine call__law_drawn_0 ?_ | refine call__law_is_name_0 ?_ | refine call_is_name_0 ?_ | refine call_is_name_1 ?_ | refine call_is_whole_0 ?_ | refine call_is_between_0 ?_ | refine call_divisor_0 ?_ | refine call_is_share_0 ?_ | refine call_are_shares_0 ?_ | refine call_parts_by_0 ?_ | refine call_split_by_0 ?_ | refine call_parted_0 ?_ | refine call_is_day_0 ?_ | refine call_is_death_0 ?_ | refine call_check_deaths_0 ?_ | refine call_Story_M___init___0 ?_ | refine call_is_person_0 ?_ | refine call_check_people_0 ?_ | refine call_is_sum_0 ?_ | refine call_is_ware_0 ?_ | refine call_check_goods_0 ?_ | refine call_check_sum_0 ?_ | refine call_House_M___init___0 ?_ | refine call__law_sort_0 ?_ | refine call__law_refused_0 ?_); (with_reducible conv => whnf))
    exact hQ z n3 lz
  refine ⟨a, n1, 3, rfl, hupd_same, by decide, by decide, fun d2 n2 hd2 => ?_⟩
  rw [hupd_hupd]
  (with_reducible conv => whnf); repeat ((first | refine ite_t rfl ?_ | refine ite_f rfl ?_ | rw [atI_0] | rw [atI_1] | refine nat_ok rfl ?_ | refine len_k rfl ?_ | refine call__law_pool_0 ?_ | refine call__law_take_0 ?_ | refine call__law_drawn_0 ?_ | refine call__law_is_name_0 ?_ | refine call_is_name_0 ?_ | refine call_is_name_1 ?_ | refine call_is_whole_0 ?_ | refine call_is_between_0 ?_ | refine call_divisor_0 ?_ | refine call_is_share_0 ?_ | refine call_are_shares_0 ?_ | refine call_parts_by_0 ?_ | refine call_split_by_0 ?_ | refine call_parted_0 ?_ | refine call_is_day_0 ?_ | refine call_is_death_0 ?_ | refine call_check_deaths_0 ?_ | refine call_Story_M___init___0 ?_ | refine call_is_person_0 ?_ | refine call_check_people_0 ?_ | refine call_is_sum_0 ?_ | refine call_is_ware_0 ?_ | refine call_check_goods_0 ?_ | refine call_check_sum_0 ?_ | refine call_House_M___init___0 ?_ | refine call__law_sort_0 ?_ | refine call__law_refused_0 ?_); (with_reducible conv => whnf))
  refine ite_b (fun c => ?_) (fun c => ?_)
  · (with_reducible conv => whnf); repeat ((first | refine ite_t rfl ?_ | refine ite_f rfl ?_ | rw [atI_0] | rw [atI_1] | refine nat_ok rfl ?_ | refine len_k rfl ?_ | refine call__law_pool_0 ?_ | refine call__law_take_0 ?_ | refine call__law_drawn_0 ?_ | refine call__law_is_name_0 ?_ | refine call_is_name_0 ?_ | refine call_is_name_1 ?_ | refine call_is_whole_0 ?_ | refine call_is_between_0 ?_ | refine call_divisor_0 ?_ | refine call_is_share_0 ?_ | refine call_are_shares_0 ?_ | refine call_parts_by_0 ?_ | refine call_split_by_0 ?_ | refine call_parted_0 ?_ | refine call_is_day_0 ?_ | refine call_is_death_0 ?_ | refine call_check_deaths_0 ?_ | refine call_Story_M___init___0 ?_ | refine call_is_person_0 ?_ | refine call_check_people_0 ?_ | refine call_is_sum_0 ?_ | refine call_is_ware_0 ?_ | refine call_check_goods_0 ?_ | refine call_check_sum_0 ?_ | refine call_House_M___init___0 ?_ | refine call__law_sort_0 ?_ | refine call__law_refused_0 ?_); (with_reducible conv => whnf))
    refine ⟨a, n2, 10, rfl, hupd_same, by decide, by decide, fun d3 n3 hd3 => ?_⟩
    rw [hupd_hupd]
    (with_reducible conv => whnf); repeat ((first | refine ite_t rfl ?_ | refine ite_f rfl ?_ | rw [atI_0] | rw [atI_1] | refine nat_ok rfl ?_ | refine len_k rfl ?_ | refine call__law_pool_0 ?_ | refine call__law_take_0 ?_ | refine call__law_drawn_0 ?_ | refine call__law_is_name_0 ?_ | refine call_is_name_0 ?_ | refine call_is_name_1 ?_ | refine call_is_whole_0 ?_ | refine call_is_between_0 ?_ | refine call_divisor_0 ?_ | refine call_is_share_0 ?_ | refine call_are_shares_0 ?_ | refine call_parts_by_0 ?_ | refine call_split_by_0 ?_ | refine call_parted_0 ?_ | refine call_is_day_0 ?_ | refine call_is_death_0 ?_ | refine call_check_deaths_0 ?_ | refine call_Story_M___init___0 ?_ | refine call_is_person_0 ?_ | refine call_check_people_0 ?_ | refine call_is_sum_0 ?_ | refine call_is_ware_0 ?_ | refine call_check_goods_0 ?_ | refine call_check_sum_0 ?_ | refine call_House_M___init___0 ?_ | refine call__law_sort_0 ?_ | refine call__law_refused_0 ?_); (with_reducible conv => whnf))
    refine ⟨by constructor <;> omega, ?_⟩
    refine loopF_rule (enc := fun i : Nat => .int (0 + (i : Int) * 1)) (l := List.range (1 + (d3 : Int)).toNat) (fun pre ρ h' => ∃ (x : Str) (o : Option D) (m : Int), ρ = [some (.ref a), some (.lst wordD), some (.str x), o, none, none, none] ∧ h' = hupd h a (.lst [.int m]) ∧ x.length = pre.length) ?_ ?_ ⟨"", none, n3, rfl, rfl, rfl⟩
    · rintro ρ h' ⟨x, o, m, rfl, rfl, hl⟩
      have hl2 : x.length ≤ 10 := by rw [hl, List.length_range]; omega
      (with_reducible conv => whnf); repeat ((first | refine ite_t rfl ?_ | refine ite_f rfl ?_ | rw [atI_0] | rw [atI_1] | refine nat_ok rfl ?_ | refine len_k rfl ?_ | refine call__law_pool_0 ?_ | refine call__law_take_0 ?_ | refine call__law_drawn_0 ?_ | refine call__law_is_name_0 ?_ | refine call_is_name_0 ?_ | refine call_is_name_1 ?_ | refine call_is_whole_0 ?_ | refine call_is_between_0 ?_ | refine call_divisor_0 ?_ | refine call_is_share_0 ?_ | refine call_are_shares_0 ?_ | refine call_parts_by_0 ?_ | refine call_split_by_0 ?_ | refine call_parted_0 ?_ | refine call_is_day_0 ?_ | refine call_is_death_0 ?_ | refine call_check_deaths_0 ?_ | refine call_Story_M___init___0 ?_ | refine call_is_person_0 ?_ | refine call_check_people_0 ?_ | refine call_is_sum_0 ?_ | refine call_is_ware_0 ?_ | refine call_check_goods_0 ?_ | refine call_check_sum_0 ?_ | refine call_House_M___init___0 ?_ | refine call__law_sort_0 ?_ | refine call__law_refused_0 ?_); (with_reducible conv => whnf))
      exact hK2 x o m hl2
    · rintro pre i suf ρ h' K1 e ⟨x, o, m, rfl, rfl, hl⟩ hK1
      have hpre : pre.length < 10 := by
        have := congrArg List.length e
        rw [List.length_range, List.length_append, List.length_cons] at this
        omega
      (with_reducible conv => whnf); repeat ((first | refine ite_t rfl ?_ | refine ite_f rfl ?_ | rw [atI_0] | rw [atI_1] | refine nat_ok rfl ?_ | refine len_k rfl ?_ | refine call__law_pool_0 ?_ | refine call__law_take_0 ?_ | refine call__law_drawn_0 ?_ | refine call__law_is_name_0 ?_ | refine call_is_name_0 ?_ | refine call_is_name_1 ?_ | refine call_is_whole_0 ?_ | refine call_is_between_0 ?_ | refine call_divisor_0 ?_ | refine call_is_share_0 ?_ | refine call_are_shares_0 ?_ | refine call_parts_by_0 ?_ | refine call_split_by_0 ?_ | refine call_parted_0 ?_ | refine call_is_day_0 ?_ | refine call_is_death_0 ?_ | refine call_check_deaths_0 ?_ | refine call_Story_M___init___0 ?_ | refine call_is_person_0 ?_ | refine call_check_people_0 ?_ | refine call_is_sum_0 ?_ | refine call_is_ware_0 ?_ | refine call_check_goods_0 ?_ | refine call_check_sum_0 ?_ | refine call_House_M___init___0 ?_ | refine call__law_sort_0 ?_ | refine call__law_refused_0 ?_); (with_reducible conv => whnf))
      refine ⟨a, m, 26, rfl, hupd_same, by decide, by decide, fun d4 n4 hd4 => ?_⟩
      rw [hupd_hupd]
      obtain ⟨cc, ecc⟩ := letters_at (d := d4) (by omega)
      (with_reducible conv => whnf); repeat ((first | refine ite_t rfl ?_ | refine ite_f rfl ?_ | rw [atI_0] | rw [atI_1] | refine nat_ok rfl ?_ | refine len_k rfl ?_ | refine call__law_pool_0 ?_ | refine call__law_take_0 ?_ | refine call__law_drawn_0 ?_ | refine call__law_is_name_0 ?_ | refine call_is_name_0 ?_ | refine call_is_name_1 ?_ | refine call_is_whole_0 ?_ | refine call_is_between_0 ?_ | refine call_divisor_0 ?_ | refine call_is_share_0 ?_ | refine call_are_shares_0 ?_ | refine call_parts_by_0 ?_ | refine call_split_by_0 ?_ | refine call_parted_0 ?_ | refine call_is_day_0 ?_ | refine call_is_death_0 ?_ | refine call_check_deaths_0 ?_ | refine call_Story_M___init___0 ?_ | refine call_is_person_0 ?_ | refine call_check_people_0 ?_ | refine call_is_sum_0 ?_ | refine call_is_ware_0 ?_ | refine call_check_goods_0 ?_ | refine call_check_sum_0 ?_ | refine call_House_M___init___0 ?_ | refine call__law_sort_0 ?_ | refine call__law_refused_0 ?_); (with_reducible conv => whnf))
      conv in atI _ _ => change atI letS.cps.toList (d4 : Int)
      rw [ecc]
      (with_reducible conv => whnf); repeat ((first | refine ite_t rfl ?_ | refine ite_f rfl ?_ | rw [atI_0] | rw [atI_1] | refine nat_ok rfl ?_ | refine len_k rfl ?_ | refine call__law_pool_0 ?_ | refine call__law_take_0 ?_ | refine call__law_drawn_0 ?_ | refine call__law_is_name_0 ?_ | refine call_is_name_0 ?_ | refine call_is_name_1 ?_ | refine call_is_whole_0 ?_ | refine call_is_between_0 ?_ | refine call_divisor_0 ?_ | refine call_is_share_0 ?_ | refine call_are_shares_0 ?_ | refine call_parts_by_0 ?_ | refine call_split_by_0 ?_ | refine call_parted_0 ?_ | refine call_is_day_0 ?_ | refine call_is_death_0 ?_ | refine call_check_deaths_0 ?_ | refine call_Story_M___init___0 ?_ | refine call_is_person_0 ?_ | refine call_check_people_0 ?_ | refine call_is_sum_0 ?_ | refine call_is_ware_0 ?_ | refine call_check_goods_0 ?_ | refine call_check_sum_0 ?_ | refine call_House_M___init___0 ?_ | refine call__law_sort_0 ?_ | refine call__law_refused_0 ?_); (with_reducible conv => whnf))
      refine ⟨by show x.length + 1 ≤ sizeLine; omega, ?_⟩
      (with_reducible conv => whnf); repeat ((first | refine ite_t rfl ?_ | refine ite_f rfl ?_ | rw [atI_0] | rw [atI_1] | refine nat_ok rfl ?_ | refine len_k rfl ?_ | refine call__law_pool_0 ?_ | refine call__law_take_0 ?_ | refine call__law_drawn_0 ?_ | refine call__law_is_name_0 ?_ | refine call_is_name_0 ?_ | refine call_is_name_1 ?_ | refine call_is_whole_0 ?_ | refine call_is_between_0 ?_ | refine call_divisor_0 ?_ | refine call_is_share_0 ?_ | refine call_are_shares_0 ?_ | refine call_parts_by_0 ?_ | refine call_split_by_0 ?_ | refine call_parted_0 ?_ | refine call_is_day_0 ?_ | refine call_is_death_0 ?_ | refine call_check_deaths_0 ?_ | refine call_Story_M___init___0 ?_ | refine call_is_person_0 ?_ | refine call_check_people_0 ?_ | refine call_is_sum_0 ?_ | refine call_is_ware_0 ?_ | refine call_check_goods_0 ?_ | refine call_check_sum_0 ?_ | refine call_House_M___init___0 ?_ | refine call__law_sort_0 ?_ | refine call__law_refused_0 ?_); (with_reducible conv => whnf))
      refine hK1 _ _ ⟨x ++ ⟨#[cc]⟩, _, n4, rfl, rfl, ?_⟩
      rw [app_len, hl, List.length_append]; rfl
  · (with_reducible conv => whnf); repeat ((first | refine ite_t rfl ?_ | refine ite_f rfl ?_ | rw [atI_0] | rw [atI_1] | refine nat_ok rfl ?_ | refine len_k rfl ?_ | refine call__law_pool_0 ?_ | refine call__law_take_0 ?_ | refine call__law_drawn_0 ?_ | refine call__law_is_name_0 ?_ | refine call_is_name_0 ?_ | refine call_is_name_1 ?_ | refine call_is_whole_0 ?_ | refine call_is_between_0 ?_ | refine call_divisor_0 ?_ | refine call_is_share_0 ?_ | refine call_are_shares_0 ?_ | refine call_parts_by_0 ?_ | refine call_split_by_0 ?_ | refine call_parted_0 ?_ | refine call_is_day_0 ?_ | refine call_is_death_0 ?_ | refine call_check_deaths_0 ?_ | refine call_Story_M___init___0 ?_ | refine call_is_person_0 ?_ | refine call_check_people_0 ?_ | refine call_is_sum_0 ?_ | refine call_is_ware_0 ?_ | refine call_check_goods_0 ?_ | refine call_check_sum_0 ?_ | refine call_House_M___init___0 ?_ | refine call__law_sort_0 ?_ | refine call__law_refused_0 ?_); (with_reducible conv => whnf))
    exact hK2 x1 none n2 lx1
end K01
namespace K01
open Y
open PySem (sizeLine Str Addr)
open L2 (atI ixN)
theorem body_nm {G : Prg} {b : Ss} {i : Nat} {d : D} {ρ : DEnv} {h : Hd} {N : EndsD} {X : QXe} {X' : QX} (p : stK ρ i d fun ρ1 => wpSs G b ρ1 h N X) : wpG G (.nm i) d ρ h (fun ρ1 h1 => wpSs G b ρ1 h1 N X) X' := p
def TH : List D := [.non, .int 0, .int 1, .bl true, .str "", .str " ", .tup [.str "ann"], .lst [.str "ann"], .dct [] [], .tup [.lst []], .lst [.lst [.str "ann"]], .str "ann ", .str "Ann", .str "a\nb", .tup [], .str "abcdefghi"]
theorem odd_TH : ∀ d ∈ TH, Odd d := by
  intro d hd
  simp only [TH, List.mem_cons, List.not_mem_nil, or_false] at hd
  rcases hd with rfl | rfl | rfl | rfl | rfl | rfl | rfl | rfl | rfl | rfl | rfl | rfl | rfl | rfl | rfl | rfl <;> first | trivial | (show _ ≤ sizeLine; decide)
theorem w_law : Meets G N_law 1 b_law S_law := by
  rintro ds h Q Xd - ⟨is, rfl, hl, hQ⟩
  have hs : 1000 ≤ sizeLine := by decide
  refine seq_c fun K hK => ?_; (with_reducible conv => whnf); repeat ((first | refine ite_t rfl ?_ | refine ite_f rfl ?_ | rw [atI_0] | rw [atI_1] | refine nat_ok rfl ?_ | refine len_k rfl ?_ | refine call__law_pool_0 ?_ | refine call__law_take_0 ?_ | refine call__law_drawn_0 ?_ | refine call__law_is_name_0 ?_ | refine call_is_name_0 ?_ | refine call_is_name_1 ?_ | refine call_is_whole_0 ?_ | refine call_is_between_0 ?_ | refine call_divisor_0 ?_ | refine call_is_share_0 ?_ | refine call_are_shares_0 ?_ | refine call_parts_by_0 ?_ | refine call_split_by_0 ?_ | refine call_parted_0 ?_ | refine call_is_day_0 ?_ | refine call_is_death_0 ?_ | refine call_check_deaths_0 ?_ | refine call_Story_M___init___0 ?_ | refine call_is_person_0 ?_ | refine call_check_people_0 ?_ | refine call_is_sum_0 ?_ | refine call_is_ware_0 ?_ | refine call_check_goods_0 ?_ | refine call_check_sum_0 ?_ | refine call_House_M___init___0 ?_ | refine call__law_sort_0 ?_ | refine call__law_refused_0 ?_); (with_reducible conv => whnf))
  intro F hF
  (with_reducible conv => whnf); repeat ((first | refine ite_t rfl ?_ | refine ite_f rfl ?_ | rw [atI_0] | rw [atI_1] | refine nat_ok rfl ?_ | refine len_k rfl ?_ | refine call__law_pool_0 ?_ | refine call__law_take_0 ?_ | refine call__law_drawn_0 ?_ | refine call__law_is_name_0 ?_ | refine call_is_name_0 ?_ | refine call_is_name_1 ?_ | refine call_is_whole_0 ?_ | refine call_is_between_0 ?_ | refine call_divisor_0 ?_ | refine call_is_share_0 ?_ | refine call_are_shares_0 ?_ | refine call_parts_by_0 ?_ | refine call_split_by_0 ?_ | refine call_parted_0 ?_ | refine call_is_day_0 ?_ | refine call_is_death_0 ?_ | refine call_check_deaths_0 ?_ | refine call_Story_M___init___0 ?_ | refine call_is_person_0 ?_ | refine call_check_people_0 ?_ | refine call_is_sum_0 ?_ | refine call_is_ware_0 ?_ | refine call_check_goods_0 ?_ | refine call_check_sum_0 ?_ | refine call_House_M___init___0 ?_ | refine call__law_sort_0 ?_ | refine call__law_refused_0 ?_); (with_reducible conv => whnf))
  refine hK _ _ ?_; clear hK K
  refine seq_c fun K hK => ?_; (with_reducible conv => whnf); repeat ((first | refine ite_t rfl ?_ | refine ite_f rfl ?_ | rw [atI_0] | rw [atI_1] | refine nat_ok rfl ?_ | refine len_k rfl ?_ | refine call__law_pool_0 ?_ | refine call__law_take_0 ?_ | refine call__law_drawn_0 ?_ | refine call__law_is_name_0 ?_ | refine call_is_name_0 ?_ | refine call_is_name_1 ?_ | refine call_is_whole_0 ?_ | refine call_is_between_0 ?_ | refine call_divisor_0 ?_ | refine call_is_share_0 ?_ | refine call_are_shares_0 ?_ | refine call_parts_by_0 ?_ | refine call_split_by_0 ?_ | refine call_parted_0 ?_ | refine call_is_day_0 ?_ | refine call_is_death_0 ?_ | refine call_check_deaths_0 ?_ | refine call_Story_M___init___0 ?_ | refine call_is_person_0 ?_ | refine call_check_people_0 ?_ | refine call_is_sum_0 ?_ | refine call_is_ware_0 ?_ | refine call_check_goods_0 ?_ | refine call_check_sum_0 ?_ | refine call_House_M___init___0 ?_ | refine call__law_sort_0 ?_ | refine call__law_refused_0 ?_); (with_reducible conv => whnf))
  refine ⟨⟨_, seqL_at hupd_same⟩, ?_⟩
  (with_reducible conv => whnf); repeat ((first | refine ite_t rfl ?_ | refine ite_f rfl ?_ | rw [atI_0] | rw [atI_1] | refine nat_ok rfl ?_ | refine len_k rfl ?_ | refine call__law_pool_0 ?_ | refine call__law_take_0 ?_ | refine call__law_drawn_0 ?_ | refine call__law_is_name_0 ?_ | refine call_is_name_0 ?_ | refine call_is_name_1 ?_ | refine call_is_whole_0 ?_ | refine call_is_between_0 ?_ | refine call_divisor_0 ?_ | refine call_is_share_0 ?_ | refine call_are_shares_0 ?_ | refine call_parts_by_0 ?_ | refine call_split_by_0 ?_ | refine call_parted_0 ?_ | refine call_is_day_0 ?_ | refine call_is_death_0 ?_ | refine call_check_deaths_0 ?_ | refine call_Story_M___init___0 ?_ | refine call_is_person_0 ?_ | refine call_check_people_0 ?_ | refine call_is_sum_0 ?_ | refine call_is_ware_0 ?_ | refine call_check_goods_0 ?_ | refine call_check_sum_0 ?_ | refine call_House_M___init___0 ?_ | refine call__law_sort_0 ?_ | refine call__law_refused_0 ?_); (with_reducible conv => whnf))
  rw [hupd_same]
  (with_reducible conv => whnf); repeat ((first | refine ite_t rfl ?_ | refine ite_f rfl ?_ | rw [atI_0] | rw [atI_1] | refine nat_ok rfl ?_ | refine len_k rfl ?_ | refine call__law_pool_0 ?_ | refine call__law_take_0 ?_ | refine call__law_drawn_0 ?_ | refine call__law_is_name_0 ?_ | refine call_is_name_0 ?_ | refine call_is_name_1 ?_ | refine call_is_whole_0 ?_ | refine call_is_between_0 ?_ | refine call_divisor_0 ?_ | refine call_is_share_0 ?_ | refine call_are_shares_0 ?_ | refine call_parts_by_0 ?_ | refine call_split_by_0 ?_ | refine call_parted_0 ?_ | refine call_is_day_0 ?_ | refine call_is_death_0 ?_ | refine call_check_deaths_0 ?_ | refine call_Story_M___init___0 ?_ | refine call_is_person_0 ?_ | refine call_check_people_0 ?_ | refine call_is_sum_0 ?_ | refine call_is_ware_0 ?_ | refine call_check_goods_0 ?_ | refine call_check_sum_0 ?_ | refine call_House_M___init___0 ?_ | refine call__law_sort_0 ?_ | refine call__law_refused_0 ?_); (with_reducible conv => whnf))
  refine hK _ _ ?_; clear hK K
  refine seq_c fun K hK => ?_; (with_reducible conv => whnf); repeat ((first | refine ite_t rfl ?_ | refine ite_f rfl ?_ | rw [atI_0] | rw [atI_1] | refine nat_ok rfl ?_ | refine len_k rfl ?_ | refine call__law_pool_0 ?_ | refine call__law_take_0 ?_ | refine call__law_drawn_0 ?_ | refine call__law_is_name_0 ?_ | refine call_is_name_0 ?_ | refine call_is_name_1 ?_ | refine call_is_whole_0 ?_ | refine call_is_between_0 ?_ | refine call_divisor_0 ?_ | refine call_is_share_0 ?_ | refine call_are_shares_0 ?_ | refine call_parts_by_0 ?_ | refine call_split_by_0 ?_ | refine call_parted_0 ?_ | refine call_is_day_0 ?_ | refine call_is_death_0 ?_ | refine call_check_deaths_0 ?_ | refine call_Story_M___init___0 ?_ | refine call_is_person_0 ?_ | refine call_check_people_0 ?_ | refine call_is_sum_0 ?_ | refine call_is_ware_0 ?_ | refine call_check_goods_0 ?_ | refine call_check_sum_0 ?_ | refine call_House_M___init___0 ?_ | refine call__law_sort_0 ?_ | refine call__law_refused_0 ?_); (with_reducible conv => whnf))
  rw [hupd_same]
  (with_reducible conv => whnf); repeat ((first | refine ite_t rfl ?_ | refine ite_f rfl ?_ | rw [atI_0] | rw [atI_1] | refine nat_ok rfl ?_ | refine len_k rfl ?_ | refine call__law_pool_0 ?_ | refine call__law_take_0 ?_ | refine call__law_drawn_0 ?_ | refine call__law_is_name_0 ?_ | refine call_is_name_0 ?_ | refine call_is_name_1 ?_ | refine call_is_whole_0 ?_ | refine call_is_between_0 ?_ | refine call_divisor_0 ?_ | refine call_is_share_0 ?_ | refine call_are_shares_0 ?_ | refine call_parts_by_0 ?_ | refine call_split_by_0 ?_ | refine call_parted_0 ?_ | refine call_is_day_0 ?_ | refine call_is_death_0 ?_ | refine call_check_deaths_0 ?_ | refine call_Story_M___init___0 ?_ | refine call_is_person_0 ?_ | refine call_check_people_0 ?_ | refine call_is_sum_0 ?_ | refine call_is_ware_0 ?_ | refine call_check_goods_0 ?_ | refine call_check_sum_0 ?_ | refine call_House_M___init___0 ?_ | refine call__law_sort_0 ?_ | refine call__law_refused_0 ?_); (with_reducible conv => whnf))
  refine hK _ _ ?_; clear hK K
  refine seq_c fun K hK => ?_; (with_reducible conv => whnf); repeat ((first | refine ite_t rfl ?_ | refine ite_f rfl ?_ | rw [atI_0] | rw [atI_1] | refine nat_ok rfl ?_ | refine len_k rfl ?_ | refine call__law_pool_0 ?_ | refine call__law_take_0 ?_ | refine call__law_drawn_0 ?_ | refine call__law_is_name_0 ?_ | refine call_is_name_0 ?_ | refine call_is_name_1 ?_ | refine call_is_whole_0 ?_ | refine call_is_between_0 ?_ | refine call_divisor_0 ?_ | refine call_is_share_0 ?_ | refine call_are_shares_0 ?_ | refine call_parts_by_0 ?_ | refine call_split_by_0 ?_ | refine call_parted_0 ?_ | refine call_is_day_0 ?_ | refine call_is_death_0 ?_ | refine call_check_deaths_0 ?_ | refine call_Story_M___init___0 ?_ | refine call_is_person_0 ?_ | refine call_check_people_0 ?_ | refine call_is_sum_0 ?_ | refine call_is_ware_0 ?_ | refine call_check_goods_0 ?_ | refine call_check_sum_0 ?_ | refine call_House_M___init___0 ?_ | refine call__law_sort_0 ?_ | refine call__law_refused_0 ?_); (with_reducible conv => whnf))
  refine ⟨by
    have : is.length ≤ 63 := hl
    constructor <;> (simp; omega), ?_⟩
  refine loopF_keep (enc := fun i : Nat => .int (0 + (i : Int) * 1)) (l := List.range (max 2 (min ((is.map D.int).length : Int) 16)).toNat) (fun ρ _ => ∃ o2 o3 o4 o5 o6 o7 o8 o9, ρ = [some (.scr is), some (.lst TH), o2, o3, o4, o5, o6, o7, o8, o9]) ?_ ?_ ⟨_, _, _, _, _, _, _, _, rfl⟩
  · rintro ρ h' ⟨o2, o3, o4, o5, o6, o7, o8, o9, rfl⟩
    (with_reducible conv => whnf); repeat ((first | refine ite_t rfl ?_ | refine ite_f rfl ?_ | rw [atI_0] | rw [atI_1] | refine nat_ok rfl ?_ | refine len_k rfl ?_ | refine call__law_pool_0 ?_ | refine call__law_take_0 ?_ | refine call__law_drawn_0 ?_ | refine call__law_is_name_0 ?_ | refine call_is_name_0 ?_ | refine call_is_name_1 ?_ | refine call_is_whole_0 ?_ | refine call_is_between_0 ?_ | refine call_divisor_0 ?_ | refine call_is_share_0 ?_ | refine call_are_shares_0 ?_ | refine call_parts_by_0 ?_ | refine call_split_by_0 ?_ | refine call_parted_0 ?_ | refine call_is_day_0 ?_ | refine call_is_death_0 ?_ | refine call_check_deaths_0 ?_ | refine call_Story_M___init___0 ?_ | refine call_is_person_0 ?_ | refine call_check_people_0 ?_ | refine call_is_sum_0 ?_ | refine call_is_ware_0 ?_ | refine call_check_goods_0 ?_ | refine call_check_sum_0 ?_ | refine call_House_M___init___0 ?_ | refine call__law_sort_0 ?_ | refine call__law_refused_0 ?_); (with_reducible conv => whnf))
    refine hK _ _ ?_; clear hK K
    exact hQ _
  · rintro i ρ h' K1 hi ⟨o2, o3, o4, o5, o6, o7, o8, o9, rfl⟩ hK1
    have hi := List.mem_range.mp hi
    rw [List.length_map] at hi
    have hi : i < 32 := by omega
    have e0 : (0 : Int) + (i : Int) * 1 = ((i : Nat) : Int) := by omega
    rw [e0]
    refine body_nm ?_; rw [stK_eq]; dsimp only [stE]
    refine seq_c fun K hK => ?_; (with_reducible conv => whnf); repeat ((first | refine ite_t rfl ?_ | refine ite_f rfl ?_ | rw [atI_0] | rw [atI_1] | refine nat_ok rfl ?_ | refine len_k rfl ?_ | refine call__law_pool_0 ?_ | refine call__law_take_0 ?_ | refine call__law_drawn_0 ?_ | refine call__law_is_name_0 ?_ | refine call_is_name_0 ?_ | refine call_is_name_1 ?_ | refine call_is_whole_0 ?_ | refine call_is_between_0 ?_ | refine call_divisor_0 ?_ | refine call_is_share_0 ?_ | refine call_are_shares_0 ?_ | refine call_parts_by_0 ?_ | refine call_split_by_0 ?_ | refine call_parted_0 ?_ | refine call_is_day_0 ?_ | refine call_is_death_0 ?_ | refine call_check_deaths_0 ?_ | refine call_Story_M___init___0 ?_ | refine call_is_person_0 ?_ | refine call_check_people_0 ?_ | refine call_is_sum_0 ?_ | refine call_is_ware_0 ?_ | refine call_check_goods_0 ?_ | refine call_check_sum_0 ?_ | refine call_House_M___init___0 ?_ | refine call__law_sort_0 ?_ | refine call__law_refused_0 ?_); (with_reducible conv => whnf))
    refine ⟨is, i, rfl, hi, fun a n ha => ?_⟩
    refine hK _ _ ?_; clear hK K
    refine seq_c fun K hK => ?_; (with_reducible conv => whnf); repeat ((first | refine ite_t rfl ?_ | refine ite_f rfl ?_ | rw [atI_0] | rw [atI_1] | refine nat_ok rfl ?_ | refine len_k rfl ?_ | refine call__law_pool_0 ?_ | refine call__law_take_0 ?_ | refine call__law_drawn_0 ?_ | refine call__law_is_name_0 ?_ | refine call_is_name_0 ?_ | refine call_is_name_1 ?_ | refine call_is_whole_0 ?_ | refine call_is_between_0 ?_ | refine call_divisor_0 ?_ | refine call_is_share_0 ?_ | refine call_are_shares_0 ?_ | refine call_parts_by_0 ?_ | refine call_split_by_0 ?_ | refine call_parted_0 ?_ | refine call_is_day_0 ?_ | refine call_is_death_0 ?_ | refine call_check_deaths_0 ?_ | refine call_Story_M___init___0 ?_ | refine call_is_person_0 ?_ | refine call_check_people_0 ?_ | refine call_is_sum_0 ?_ | refine call_is_ware_0 ?_ | refine call_check_goods_0 ?_ | refine call_check_sum_0 ?_ | refine call_House_M___init___0 ?_ | refine call__law_sort_0 ?_ | refine call__law_refused_0 ?_); (with_reducible conv => whnf))
    refine ⟨by constructor <;> decide, ?_⟩
    intro D1 hD1
    have aD : a ≠ D1 := fun z => by rw [z, hupd_same] at hD1; cases hD1
    refine loopC_rule (enc := fun i : Nat => .int (0 + (i : Int) * 1)) (l := List.range 6) (fun pre acc h1 => ∃ (xs : List Str) (m : Int), acc = xs.map D.str ∧ (∀ x ∈ xs, x.length ≤ 64) ∧ xs.length = pre.length ∧ h1 a = some (.lst [.int m])) ?_ ?_ ⟨[], n, rfl, (fun x hx => by cases hx), rfl, by rw [hupd_other aD, hupd_same]⟩
    · rintro acc h1 ⟨xs, m, rfl, hx, hlx, -⟩
      have hlx : xs.length = 6 := by rw [hlx]; rfl
      (with_reducible conv => whnf); repeat ((first | refine ite_t rfl ?_ | refine ite_f rfl ?_ | rw [atI_0] | rw [atI_1] | refine nat_ok rfl ?_ | refine len_k rfl ?_ | refine call__law_pool_0 ?_ | refine call__law_take_0 ?_ | refine call__law_drawn_0 ?_ | refine call__law_is_name_0 ?_ | refine call_is_name_0 ?_ | refine call_is_name_1 ?_ | refine call_is_whole_0 ?_ | refine call_is_between_0 ?_ | refine call_divisor_0 ?_ | refine call_is_share_0 ?_ | refine call_are_shares_0 ?_ | refine call_parts_by_0 ?_ | refine call_split_by_0 ?_ | refine call_parted_0 ?_ | refine call_is_day_0 ?_ | refine call_is_death_0 ?_ | refine call_check_deaths_0 ?_ | refine call_Story_M___init___0 ?_ | refine call_is_person_0 ?_ | refine call_check_people_0 ?_ | refine call_is_sum_0 ?_ | refine call_is_ware_0 ?_ | refine call_check_goods_0 ?_ | refine call_check_sum_0 ?_ | refine call_House_M___init___0 ?_ | refine call__law_sort_0 ?_ | refine call__law_refused_0 ?_); (with_reducible conv => whnf))
      refine hK _ _ ?_; clear hK K
      have odds : ∀ d ∈ xs.map D.str ++ TH, Odd d := fun d hd => by
        rcases List.mem_append.mp hd with z | z
        · obtain ⟨x, hxx, rfl⟩ := List.mem_map.mp z
          have := hx x hxx
          show x.length ≤ sizeLine
          omega
        · exact odd_TH d z
      refine seq_c fun K hK => ?_; (with_reducible conv => whnf); repeat ((first | refine ite_t rfl ?_ | refine ite_f rfl ?_ | rw [atI_0] | rw [atI_1] | refine nat_ok rfl ?_ | refine len_k rfl ?_ | refine call__law_pool_0 ?_ | refine call__law_take_0 ?_ | refine call__law_drawn_0 ?_ | refine call__law_is_name_0 ?_ | refine call_is_name_0 ?_ | refine call_is_name_1 ?_ | refine call_is_whole_0 ?_ | refine call_is_between_0 ?_ | refine call_divisor_0 ?_ | refine call_is_share_0 ?_ | refine call_are_shares_0 ?_ | refine call_parts_by_0 ?_ | refine call_split_by_0 ?_ | refine call_parted_0 ?_ | refine call_is_day_0 ?_ | refine call_is_death_0 ?_ | refine call_check_deaths_0 ?_ | refine call_Story_M___init___0 ?_ | refine call_is_person_0 ?_ | refine call_check_people_0 ?_ | refine call_is_sum_0 ?_ | refine call_is_ware_0 ?_ | refine call_check_goods_0 ?_ | refine call_check_sum_0 ?_ | refine call_House_M___init___0 ?_ | refine call__law_sort_0 ?_ | refine call__law_refused_0 ?_); (with_reducible conv => whnf))
      refine ⟨by rw [List.length_append, List.length_map, hlx]; decide, ?_⟩
      (with_reducible conv => whnf); repeat ((first | refine ite_t rfl ?_ | refine ite_f rfl ?_ | rw [atI_0] | rw [atI_1] | refine nat_ok rfl ?_ | refine len_k rfl ?_ | refine call__law_pool_0 ?_ | refine call__law_take_0 ?_ | refine call__law_drawn_0 ?_ | refine call__law_is_name_0 ?_ | refine call_is_name_0 ?_ | refine call_is_name_1 ?_ | refine call_is_whole_0 ?_ | refine call_is_between_0 ?_ | refine call_divisor_0 ?_ | refine call_is_share_0 ?_ | refine call_are_shares_0 ?_ | refine call_parts_by_0 ?_ | refine call_split_by_0 ?_ | refine call_parted_0 ?_ | refine call_is_day_0 ?_ | refine call_is_death_0 ?_ | refine call_check_deaths_0 ?_ | refine call_Story_M___init___0 ?_ | refine call_is_person_0 ?_ | refine call_check_people_0 ?_ | refine call_is_sum_0 ?_ | refine call_is_ware_0 ?_ | refine call_check_goods_0 ?_ | refine call_check_sum_0 ?_ | refine call_House_M___init___0 ?_ | refine call__law_sort_0 ?_ | refine call__law_refused_0 ?_); (with_reducible conv => whnf))
      refine loopF_mem (fun ρ _ => ∃ o3 o5 o6 o7 o8 o9, ρ = [some (.scr is), some (.lst TH), some (.int i), o3, some (.lst (xs.map D.str)), o5, o6, o7, o8, o9]) ?_ ?_ ⟨_, _, _, _, _, _, rfl⟩
      · rintro ρ h2 ⟨o3, o5, o6, o7, o8, o9, rfl⟩
        refine hK _ _ ?_; clear hK K
        refine seq_c fun K hK => ?_; (with_reducible conv => whnf); repeat ((first | refine ite_t rfl ?_ | refine ite_f rfl ?_ | rw [atI_0] | rw [atI_1] | refine nat_ok rfl ?_ | refine len_k rfl ?_ | refine call__law_pool_0 ?_ | refine call__law_take_0 ?_ | refine call__law_drawn_0 ?_ | refine call__law_is_name_0 ?_ | refine call_is_name_0 ?_ | refine call_is_name_1 ?_ | refine call_is_whole_0 ?_ | refine call_is_between_0 ?_ | refine call_divisor_0 ?_ | refine call_is_share_0 ?_ | refine call_are_shares_0 ?_ | refine call_parts_by_0 ?_ | refine call_split_by_0 ?_ | refine call_parted_0 ?_ | refine call_is_day_0 ?_ | refine call_is_death_0 ?_ | refine call_check_deaths_0 ?_ | refine call_Story_M___init___0 ?_ | refine call_is_person_0 ?_ | refine call_check_people_0 ?_ | refine call_is_sum_0 ?_ | refine call_is_ware_0 ?_ | refine call_check_goods_0 ?_ | refine call_check_sum_0 ?_ | refine call_House_M___init___0 ?_ | refine call__law_sort_0 ?_ | refine call__law_refused_0 ?_); (with_reducible conv => whnf))
        obtain ⟨x0, r0, rfl⟩ : ∃ x0 r0, xs = x0 :: r0 := by
          cases xs with
          | nil => cases hlx
          | cons x r => exact ⟨x, r, rfl⟩
        rw [List.map_cons, atI_0]
        (with_reducible conv => whnf); repeat ((first | refine ite_t rfl ?_ | refine ite_f rfl ?_ | rw [atI_0] | rw [atI_1] | refine nat_ok rfl ?_ | refine len_k rfl ?_ | refine call__law_pool_0 ?_ | refine call__law_take_0 ?_ | refine call__law_drawn_0 ?_ | refine call__law_is_name_0 ?_ | refine call_is_name_0 ?_ | refine call_is_name_1 ?_ | refine call_is_whole_0 ?_ | refine call_is_between_0 ?_ | refine call_divisor_0 ?_ | refine call_is_share_0 ?_ | refine call_are_shares_0 ?_ | refine call_parts_by_0 ?_ | refine call_split_by_0 ?_ | refine call_parted_0 ?_ | refine call_is_day_0 ?_ | refine call_is_death_0 ?_ | refine call_check_deaths_0 ?_ | refine call_Story_M___init___0 ?_ | refine call_is_person_0 ?_ | refine call_check_people_0 ?_ | refine call_is_sum_0 ?_ | refine call_is_ware_0 ?_ | refine call_check_goods_0 ?_ | refine call_check_sum_0 ?_ | refine call_House_M___init___0 ?_ | refine call__law_sort_0 ?_ | refine call__law_refused_0 ?_); (with_reducible conv => whnf))
        refine ⟨0, _, rfl, .inl rfl, fun h3 e3 => ?_⟩
        (with_reducible conv => whnf); repeat ((first | refine ite_t rfl ?_ | refine ite_f rfl ?_ | rw [atI_0] | rw [atI_1] | refine nat_ok rfl ?_ | refine len_k rfl ?_ | refine call__law_pool_0 ?_ | refine call__law_take_0 ?_ | refine call__law_drawn_0 ?_ | refine call__law_is_name_0 ?_ | refine call_is_name_0 ?_ | refine call_is_name_1 ?_ | refine call_is_whole_0 ?_ | refine call_is_between_0 ?_ | refine call_divisor_0 ?_ | refine call_is_share_0 ?_ | refine call_are_shares_0 ?_ | refine call_parts_by_0 ?_ | refine call_split_by_0 ?_ | refine call_parted_0 ?_ | refine call_is_day_0 ?_ | refine call_is_death_0 ?_ | refine call_check_deaths_0 ?_ | refine call_Story_M___init___0 ?_ | refine call_is_person_0 ?_ | refine call_check_people_0 ?_ | refine call_is_sum_0 ?_ | refine call_is_ware_0 ?_ | refine call_check_goods_0 ?_ | refine call_check_sum_0 ?_ | refine call_House_M___init___0 ?_ | refine call__law_sort_0 ?_ | refine call__law_refused_0 ?_); (with_reducible conv => whnf))
        refine deepEq_b (b := true) (by kernel_rfl) ?_
        (with_reducible conv => whnf); repeat ((first | refine ite_t rfl ?_ | refine ite_f rfl ?_ | rw [atI_0] | rw [atI_1] | refine nat_ok rfl ?_ | refine len_k rfl ?_ | refine call__law_pool_0 ?_ | refine call__law_take_0 ?_ | refine call__law_drawn_0 ?_ | refine call__law_is_name_0 ?_ | refine call_is_name_0 ?_ | refine call_is_name_1 ?_ | refine call_is_whole_0 ?_ | refine call_is_between_0 ?_ | refine call_divisor_0 ?_ | refine call_is_share_0 ?_ | refine call_are_shares_0 ?_ | refine call_parts_by_0 ?_ | refine call_split_by_0 ?_ | refine call_parted_0 ?_ | refine call_is_day_0 ?_ | refine call_is_death_0 ?_ | refine call_check_deaths_0 ?_ | refine call_Story_M___init___0 ?_ | refine call_is_person_0 ?_ | refine call_check_people_0 ?_ | refine call_is_sum_0 ?_ | refine call_is_ware_0 ?_ | refine call_check_goods_0 ?_ | refine call_check_sum_0 ?_ | refine call_House_M___init___0 ?_ | refine call__law_sort_0 ?_ | refine call__law_refused_0 ?_); (with_reducible conv => whnf))
        refine ⟨_, rfl, (by show _ ≤ sizeLine; decide), ?_⟩
        rw [show isN (.str "abcdefgh") = true from by decide +kernel]
        (with_reducible conv => whnf); repeat ((first | refine ite_t rfl ?_ | refine ite_f rfl ?_ | rw [atI_0] | rw [atI_1] | refine nat_ok rfl ?_ | refine len_k rfl ?_ | refine call__law_pool_0 ?_ | refine call__law_take_0 ?_ | refine call__law_drawn_0 ?_ | refine call__law_is_name_0 ?_ | refine call_is_name_0 ?_ | refine call_is_name_1 ?_ | refine call_is_whole_0 ?_ | refine call_is_between_0 ?_ | refine call_divisor_0 ?_ | refine call_is_share_0 ?_ | refine call_are_shares_0 ?_ | refine call_parts_by_0 ?_ | refine call_split_by_0 ?_ | refine call_parted_0 ?_ | refine call_is_day_0 ?_ | refine call_is_death_0 ?_ | refine call_check_deaths_0 ?_ | refine call_Story_M___init___0 ?_ | refine call_is_person_0 ?_ | refine call_check_people_0 ?_ | refine call_is_sum_0 ?_ | refine call_is_ware_0 ?_ | refine call_check_goods_0 ?_ | refine call_check_sum_0 ?_ | refine call_House_M___init___0 ?_ | refine call__law_sort_0 ?_ | refine call__law_refused_0 ?_); (with_reducible conv => whnf))
        refine hK _ _ ?_; clear hK K
        exact hK1 _ _ ⟨_, _, _, _, _, _, _, _, rfl⟩
      · rintro d ρ h2 K2 hd ⟨o3, o5, o6, o7, o8, o9, rfl⟩ hK2
        have od := odds d hd
        refine body_nm ?_; rw [stK_eq]; dsimp only [stE]
        refine seq_c fun K hK => ?_; (with_reducible conv => whnf); repeat ((first | refine ite_t rfl ?_ | refine ite_f rfl ?_ | rw [atI_0] | rw [atI_1] | refine nat_ok rfl ?_ | refine len_k rfl ?_ | refine call__law_pool_0 ?_ | refine call__law_take_0 ?_ | refine call__law_drawn_0 ?_ | refine call__law_is_name_0 ?_ | refine call_is_name_0 ?_ | refine call_is_name_1 ?_ | refine call_is_whole_0 ?_ | refine call_is_between_0 ?_ | refine call_divisor_0 ?_ | refine call_is_share_0 ?_ | refine call_are_shares_0 ?_ | refine call_parts_by_0 ?_ | refine call_split_by_0 ?_ | refine call_parted_0 ?_ | refine call_is_day_0 ?_ | refine call_is_death_0 ?_ | refine call_check_deaths_0 ?_ | refine call_Story_M___init___0 ?_ | refine call_is_person_0 ?_ | refine call_check_people_0 ?_ | refine call_is_sum_0 ?_ | refine call_is_ware_0 ?_ | refine call_check_goods_0 ?_ | refine call_check_sum_0 ?_ | refine call_House_M___init___0 ?_ | refine call__law_sort_0 ?_ | refine call__law_refused_0 ?_); (with_reducible conv => whnf))
        refine ⟨d, rfl, od, ?_⟩
        (with_reducible conv => whnf); repeat ((first | refine ite_t rfl ?_ | refine ite_f rfl ?_ | rw [atI_0] | rw [atI_1] | refine nat_ok rfl ?_ | refine len_k rfl ?_ | refine call__law_pool_0 ?_ | refine call__law_take_0 ?_ | refine call__law_drawn_0 ?_ | refine call__law_is_name_0 ?_ | refine call_is_name_0 ?_ | refine call_is_name_1 ?_ | refine call_is_whole_0 ?_ | refine call_is_between_0 ?_ | refine call_divisor_0 ?_ | refine call_is_share_0 ?_ | refine call_are_shares_0 ?_ | refine call_parts_by_0 ?_ | refine call_split_by_0 ?_ | refine call_parted_0 ?_ | refine call_is_day_0 ?_ | refine call_is_death_0 ?_ | refine call_check_deaths_0 ?_ | refine call_Story_M___init___0 ?_ | refine call_is_person_0 ?_ | refine call_check_people_0 ?_ | refine call_is_sum_0 ?_ | refine call_is_ware_0 ?_ | refine call_check_goods_0 ?_ | refine call_check_sum_0 ?_ | refine call_House_M___init___0 ?_ | refine call__law_sort_0 ?_ | refine call__law_refused_0 ?_); (with_reducible conv => whnf))
        refine ⟨d, rfl, od, ?_⟩
        (with_reducible conv => whnf); repeat ((first | refine ite_t rfl ?_ | refine ite_f rfl ?_ | rw [atI_0] | rw [atI_1] | refine nat_ok rfl ?_ | refine len_k rfl ?_ | refine call__law_pool_0 ?_ | refine call__law_take_0 ?_ | refine call__law_drawn_0 ?_ | refine call__law_is_name_0 ?_ | refine call_is_name_0 ?_ | refine call_is_name_1 ?_ | refine call_is_whole_0 ?_ | refine call_is_between_0 ?_ | refine call_divisor_0 ?_ | refine call_is_share_0 ?_ | refine call_are_shares_0 ?_ | refine call_parts_by_0 ?_ | refine call_split_by_0 ?_ | refine call_parted_0 ?_ | refine call_is_day_0 ?_ | refine call_is_death_0 ?_ | refine call_check_deaths_0 ?_ | refine call_Story_M___init___0 ?_ | refine call_is_person_0 ?_ | refine call_check_people_0 ?_ | refine call_is_sum_0 ?_ | refine call_is_ware_0 ?_ | refine call_check_goods_0 ?_ | refine call_check_sum_0 ?_ | refine call_House_M___init___0 ?_ | refine call__law_sort_0 ?_ | refine call__law_refused_0 ?_); (with_reducible conv => whnf))
        refine hK _ _ ?_; clear hK K
        refine seq_c fun K hK => ?_; (with_reducible conv => whnf); repeat ((first | refine ite_t rfl ?_ | refine ite_f rfl ?_ | rw [atI_0] | rw [atI_1] | refine nat_ok rfl ?_ | refine len_k rfl ?_ | refine call__law_pool_0 ?_ | refine call__law_take_0 ?_ | refine call__law_drawn_0 ?_ | refine call__law_is_name_0 ?_ | refine call_is_name_0 ?_ | refine call_is_name_1 ?_ | refine call_is_whole_0 ?_ | refine call_is_between_0 ?_ | refine call_divisor_0 ?_ | refine call_is_share_0 ?_ | refine call_are_shares_0 ?_ | refine call_parts_by_0 ?_ | refine call_split_by_0 ?_ | refine call_parted_0 ?_ | refine call_is_day_0 ?_ | refine call_is_death_0 ?_ | refine call_check_deaths_0 ?_ | refine call_Story_M___init___0 ?_ | refine call_is_person_0 ?_ | refine call_check_people_0 ?_ | refine call_is_sum_0 ?_ | refine call_is_ware_0 ?_ | refine call_check_goods_0 ?_ | refine call_check_sum_0 ?_ | refine call_House_M___init___0 ?_ | refine call__law_sort_0 ?_ | refine call__law_refused_0 ?_); (with_reducible conv => whnf))
        have next : (isN d = false → ∀ h3, K (some (.scr is) :: some (.lst TH) :: some (.int i) :: o3 :: some (.lst (xs.map D.str)) :: some d :: o6 :: some (.bl (isN d)) :: some (.bl (isN d)) :: [o9]) h3) ∧ (isN d = true → ∀ h3, K (some (.scr is) :: some (.lst TH) :: some (.int i) :: o3 :: some (.lst (xs.map D.str)) :: some d :: o6 :: some (.bl (isN d)) :: some (.bl (isN d)) :: [o9]) h3) := by
          refine ⟨fun hb h3 => ?_, fun hb h3 => ?_⟩
          · refine hK _ _ ?_
            clear hK K
            rw [hb]
            refine seq_c fun K hK => ?_; (with_reducible conv => whnf); repeat ((first | refine ite_t rfl ?_ | refine ite_f rfl ?_ | rw [atI_0] | rw [atI_1] | refine nat_ok rfl ?_ | refine len_k rfl ?_ | refine call__law_pool_0 ?_ | refine call__law_take_0 ?_ | refine call__law_drawn_0 ?_ | refine call__law_is_name_0 ?_ | refine call_is_name_0 ?_ | refine call_is_name_1 ?_ | refine call_is_whole_0 ?_ | refine call_is_between_0 ?_ | refine call_divisor_0 ?_ | refine call_is_share_0 ?_ | refine call_are_shares_0 ?_ | refine call_parts_by_0 ?_ | refine call_split_by_0 ?_ | refine call_parted_0 ?_ | refine call_is_day_0 ?_ | refine call_is_death_0 ?_ | refine call_check_deaths_0 ?_ | refine call_Story_M___init___0 ?_ | refine call_is_person_0 ?_ | refine call_check_people_0 ?_ | refine call_is_sum_0 ?_ | refine call_is_ware_0 ?_ | refine call_check_goods_0 ?_ | refine call_check_sum_0 ?_ | refine call_House_M___init___0 ?_ | refine call__law_sort_0 ?_ | refine call__law_refused_0 ?_); (with_reducible conv => whnf))
            intro D2 hD2
            (with_reducible conv => whnf); repeat ((first | refine ite_t rfl ?_ | refine ite_f rfl ?_ | rw [atI_0] | rw [atI_1] | refine nat_ok rfl ?_ | refine len_k rfl ?_ | refine loopC_n ?_ | refine loopC_c ?_ | refine loopF_n ?_ | refine loopF_c ?_ | refine call__law_pool_0 ?_ | refine call__law_take_0 ?_ | refine call__law_drawn_0 ?_ | refine call__law_is_name_0 ?_ | refine call_is_name_0 ?_ | refine call_is_name_1 ?_ | refine call_is_whole_0 ?_ | refine call_is_between_0 ?_ | refine call_divisor_0 ?_ | refine call_is_share_0 ?_ | refine call_are_shares_0 ?_ | refine call_parts_by_0 ?_ | refine call_split_by_0 ?_ | refine call_parted_0 ?_ | refine call_is_day_0 ?_ | refine call_is_death_0 ?_ | refine call_check_deaths_0 ?_ | refine call_Story_M___init___0 ?_ | refine call_is_person_0 ?_ | refine call_check_people_0 ?_ | refine call_is_sum_0 ?_ | refine call_is_ware_0 ?_ | refine call_check_goods_0 ?_ | refine call_check_sum_0 ?_ | refine call_House_M___init___0 ?_ | refine call__law_sort_0 ?_ | refine call__law_refused_0 ?_); (with_reducible conv => whnf))
            refine ⟨1, d, rfl, .inr ⟨.inl rfl, od, hb⟩, fun h4 e4 => ?_⟩
            (with_reducible conv => whnf); repeat ((first | refine ite_t rfl ?_ | refine ite_f rfl ?_ | rw [atI_0] | rw [atI_1] | refine nat_ok rfl ?_ | refine len_k rfl ?_ | refine loopC_n ?_ | refine loopC_c ?_ | refine loopF_n ?_ | refine loopF_c ?_ | refine call__law_pool_0 ?_ | refine call__law_take_0 ?_ | refine call__law_drawn_0 ?_ | refine call__law_is_name_0 ?_ | refine call_is_name_0 ?_ | refine call_is_name_1 ?_ | refine call_is_whole_0 ?_ | refine call_is_between_0 ?_ | refine call_divisor_0 ?_ | refine call_is_share_0 ?_ | refine call_are_shares_0 ?_ | refine call_parts_by_0 ?_ | refine call_split_by_0 ?_ | refine call_parted_0 ?_ | refine call_is_day_0 ?_ | refine call_is_death_0 ?_ | refine call_check_deaths_0 ?_ | refine call_Story_M___init___0 ?_ | refine call_is_person_0 ?_ | refine call_check_people_0 ?_ | refine call_is_sum_0 ?_ | refine call_is_ware_0 ?_ | refine call_check_goods_0 ?_ | refine call_check_sum_0 ?_ | refine call_House_M___init___0 ?_ | refine call__law_sort_0 ?_ | refine call__law_refused_0 ?_); (with_reducible conv => whnf))
            refine ⟨2, d, rfl, .inr ⟨.inr rfl, od, hb⟩, fun h5 e5 => ?_⟩
            (with_reducible conv => whnf); repeat ((first | refine ite_t rfl ?_ | refine ite_f rfl ?_ | rw [atI_0] | rw [atI_1] | refine nat_ok rfl ?_ | refine len_k rfl ?_ | refine loopC_n ?_ | refine loopC_c ?_ | refine loopF_n ?_ | refine loopF_c ?_ | refine call__law_pool_0 ?_ | refine call__law_take_0 ?_ | refine call__law_drawn_0 ?_ | refine call__law_is_name_0 ?_ | refine call_is_name_0 ?_ | refine call_is_name_1 ?_ | refine call_is_whole_0 ?_ | refine call_is_between_0 ?_ | refine call_divisor_0 ?_ | refine call_is_share_0 ?_ | refine call_are_shares_0 ?_ | refine call_parts_by_0 ?_ | refine call_split_by_0 ?_ | refine call_parted_0 ?_ | refine call_is_day_0 ?_ | refine call_is_death_0 ?_ | refine call_check_deaths_0 ?_ | refine call_Story_M___init___0 ?_ | refine call_is_person_0 ?_ | refine call_check_people_0 ?_ | refine call_is_sum_0 ?_ | refine call_is_ware_0 ?_ | refine call_check_goods_0 ?_ | refine call_check_sum_0 ?_ | refine call_House_M___init___0 ?_ | refine call__law_sort_0 ?_ | refine call__law_refused_0 ?_); (with_reducible conv => whnf))
            refine deepEq_b (b := true) (by kernel_rfl) ?_
            (with_reducible conv => whnf); repeat ((first | refine ite_t rfl ?_ | refine ite_f rfl ?_ | rw [atI_0] | rw [atI_1] | refine nat_ok rfl ?_ | refine len_k rfl ?_ | refine call__law_pool_0 ?_ | refine call__law_take_0 ?_ | refine call__law_drawn_0 ?_ | refine call__law_is_name_0 ?_ | refine call_is_name_0 ?_ | refine call_is_name_1 ?_ | refine call_is_whole_0 ?_ | refine call_is_between_0 ?_ | refine call_divisor_0 ?_ | refine call_is_share_0 ?_ | refine call_are_shares_0 ?_ | refine call_parts_by_0 ?_ | refine call_split_by_0 ?_ | refine call_parted_0 ?_ | refine call_is_day_0 ?_ | refine call_is_death_0 ?_ | refine call_check_deaths_0 ?_ | refine call_Story_M___init___0 ?_ | refine call_is_person_0 ?_ | refine call_check_people_0 ?_ | refine call_is_sum_0 ?_ | refine call_is_ware_0 ?_ | refine call_check_goods_0 ?_ | refine call_check_sum_0 ?_ | refine call_House_M___init___0 ?_ | refine call__law_sort_0 ?_ | refine call__law_refused_0 ?_); (with_reducible conv => whnf))
            refine hK _ _ ?_; clear hK K
            exact hK2 _ _ ⟨_, _, _, _, _, _, rfl⟩
          · refine hK _ _ ?_
            clear hK K
            rw [hb]
            refine seq_c fun K hK => ?_; (with_reducible conv => whnf); repeat ((first | refine ite_t rfl ?_ | refine ite_f rfl ?_ | rw [atI_0] | rw [atI_1] | refine nat_ok rfl ?_ | refine len_k rfl ?_ | refine call__law_pool_0 ?_ | refine call__law_take_0 ?_ | refine call__law_drawn_0 ?_ | refine call__law_is_name_0 ?_ | refine call_is_name_0 ?_ | refine call_is_name_1 ?_ | refine call_is_whole_0 ?_ | refine call_is_between_0 ?_ | refine call_divisor_0 ?_ | refine call_is_share_0 ?_ | refine call_are_shares_0 ?_ | refine call_parts_by_0 ?_ | refine call_split_by_0 ?_ | refine call_parted_0 ?_ | refine call_is_day_0 ?_ | refine call_is_death_0 ?_ | refine call_check_deaths_0 ?_ | refine call_Story_M___init___0 ?_ | refine call_is_person_0 ?_ | refine call_check_people_0 ?_ | refine call_is_sum_0 ?_ | refine call_is_ware_0 ?_ | refine call_check_goods_0 ?_ | refine call_check_sum_0 ?_ | refine call_House_M___init___0 ?_ | refine call__law_sort_0 ?_ | refine call__law_refused_0 ?_); (with_reducible conv => whnf))
            refine hK _ _ ?_; clear hK K
            exact hK2 _ _ ⟨_, _, _, _, _, _, rfl⟩
        cases hb : isN d with
        | false =>
          have nx := next.1 hb
          rw [hb] at nx
          (with_reducible conv => whnf); repeat ((first | refine ite_t rfl ?_ | refine ite_f rfl ?_ | rw [atI_0] | rw [atI_1] | refine nat_ok rfl ?_ | refine len_k rfl ?_ | refine call__law_pool_0 ?_ | refine call__law_take_0 ?_ | refine call__law_drawn_0 ?_ | refine call__law_is_name_0 ?_ | refine call_is_name_0 ?_ | refine call_is_name_1 ?_ | refine call_is_whole_0 ?_ | refine call_is_between_0 ?_ | refine call_divisor_0 ?_ | refine call_is_share_0 ?_ | refine call_are_shares_0 ?_ | refine call_parts_by_0 ?_ | refine call_split_by_0 ?_ | refine call_parted_0 ?_ | refine call_is_day_0 ?_ | refine call_is_death_0 ?_ | refine call_check_deaths_0 ?_ | refine call_Story_M___init___0 ?_ | refine call_is_person_0 ?_ | refine call_check_people_0 ?_ | refine call_is_sum_0 ?_ | refine call_is_ware_0 ?_ | refine call_check_goods_0 ?_ | refine call_check_sum_0 ?_ | refine call_House_M___init___0 ?_ | refine call__law_sort_0 ?_ | refine call__law_refused_0 ?_); (with_reducible conv => whnf))
          exact nx _
        | true =>
          have nx := next.2 hb
          rw [hb] at nx
          (with_reducible conv => whnf); repeat ((first | refine ite_t rfl ?_ | refine ite_f rfl ?_ | rw [atI_0] | rw [atI_1] | refine nat_ok rfl ?_ | refine len_k rfl ?_ | refine call__law_pool_0 ?_ | refine call__law_take_0 ?_ | refine call__law_drawn_0 ?_ | refine call__law_is_name_0 ?_ | refine call_is_name_0 ?_ | refine call_is_name_1 ?_ | refine call_is_whole_0 ?_ | refine call_is_between_0 ?_ | refine call_divisor_0 ?_ | refine call_is_share_0 ?_ | refine call_are_shares_0 ?_ | refine call_parts_by_0 ?_ | refine call_split_by_0 ?_ | refine call_parted_0 ?_ | refine call_is_day_0 ?_ | refine call_is_death_0 ?_ | refine call_check_deaths_0 ?_ | refine call_Story_M___init___0 ?_ | refine call_is_person_0 ?_ | refine call_check_people_0 ?_ | refine call_is_sum_0 ?_ | refine call_is_ware_0 ?_ | refine call_check_goods_0 ?_ | refine call_check_sum_0 ?_ | refine call_House_M___init___0 ?_ | refine call__law_sort_0 ?_ | refine call__law_refused_0 ?_); (with_reducible conv => whnf))
          exact nx _
    · rintro pre j suf acc h1 K2 e ⟨xs, m, rfl, hx, hlx, hm⟩ hK2
      have hj : pre.length < 6 := by
        have := congrArg List.length e
        rw [List.length_range, List.length_append, List.length_cons] at this
        omega
      (with_reducible conv => whnf); repeat ((first | refine ite_t rfl ?_ | refine ite_f rfl ?_ | rw [atI_0] | rw [atI_1] | refine nat_ok rfl ?_ | refine len_k rfl ?_ | refine call__law_pool_0 ?_ | refine call__law_take_0 ?_ | refine call__law_drawn_0 ?_ | refine call__law_is_name_0 ?_ | refine call_is_name_0 ?_ | refine call_is_name_1 ?_ | refine call_is_whole_0 ?_ | refine call_is_between_0 ?_ | refine call_divisor_0 ?_ | refine call_is_share_0 ?_ | refine call_are_shares_0 ?_ | refine call_parts_by_0 ?_ | refine call_split_by_0 ?_ | refine call_parted_0 ?_ | refine call_is_day_0 ?_ | refine call_is_death_0 ?_ | refine call_check_deaths_0 ?_ | refine call_Story_M___init___0 ?_ | refine call_is_person_0 ?_ | refine call_check_people_0 ?_ | refine call_is_sum_0 ?_ | refine call_is_ware_0 ?_ | refine call_check_goods_0 ?_ | refine call_check_sum_0 ?_ | refine call_House_M___init___0 ?_ | refine call__law_sort_0 ?_ | refine call__law_refused_0 ?_); (with_reducible conv => whnf))
      refine ⟨a, m, rfl, hm, fun x m' hx' => ?_⟩
      refine ⟨by rw [List.length_map]; omega, ?_⟩
      refine hK2 _ _ ⟨xs ++ [x], m', by rw [List.map_append]; rfl, fun y hy => ?_, by simp [hlx], hupd_same⟩
      rcases List.mem_append.mp hy with z | z
      · exact hx y z
      · rw [List.mem_singleton.mp z]; exact hx'
end K01
namespace K01
open PySem PySem.Spec PyProof.Rows L2 Y
theorem facts {P : Program} {w : World} {K : PySem.W.Frag} {h : Heap} {mg : Str → Option Value} {f : Addr} (X : K.In h) (G0 : h.Ns mainGlobals mg) (hfa : mg ("law" : Str) = some (.ref f)) (c : SaysY fa fn tb K) :
    ∃ fd : FuncData, (∀ (s : Shared) (v : Value), BindsTo s fd ⟨[v], []⟩ [("script", v)]) ∧ ∀ base : Heap, K.In base → base.Ns mainGlobals mg → FnOk P w K mg base (L2.CX P w) 112 f fd ["script"] (toSp K 1 (lawS 63)) := by
  have hfree := free_all X G0 c.d
  have hcn : ∀ (j : Nat) (x : Str), cns[j]? = some x → ∃ u v, mg x = some u ∧ RelV v u ∧ ∀ H h, Rep K H h (G.Γ j) v := fun j x e => match j, e with
    | 0, e => by cases e; exact cn_ok X G0 c.c.cns (j := 0) rfl
    | 1, e => by cases e; exact cn_ok X G0 c.c.cns (j := 1) rfl
    | 2, e => by cases e; exact cn_ok X G0 c.c.cns (j := 2) rfl
    | 3, e => by cases e; exact cn_ok X G0 c.c.cns (j := 3) rfl
    | 4, e => by cases e; exact cn_ok X G0 c.c.cns (j := 4) rfl
    | 5, e => by cases e; exact cn_ok X G0 c.c.cns (j := 5) rfl
    | 6, e => by cases e; exact cn_ok X G0 c.c.cns (j := 6) rfl
    | 7, e => by cases e; exact cn_ok X G0 c.c.cns (j := 7) rfl
    | 8, e => by cases e; exact cn_ok X G0 c.c.cns (j := 8) rfl
    | 9, e => by cases e; exact cn_ok X G0 c.c.cns (j := 9) rfl
    | _ + 10, e => by cases e
  obtain ⟨fd0, F0⟩ := c.d.def_ 0 (d := dd 63 "_law_pool" []) rfl
  have g0 : mg i__law_pool.name = some (.ref (He.ga K "_law_pool")) := glo_all X G0 c.d (by decide +kernel)
  have k0 : ∀ sh ∈ i__law_pool.shapes, KSh K fd0 i__law_pool.ps sh := (kshs_cons (ksh_pos (n := 2) F0 rfl fun _ _ _ _ _ _ us hl => match us, hl with | [_, _], _ => by kernel_rfl) kshs_nil)
  obtain ⟨fd1, F1⟩ := c.d.def_ 1 (d := dd 64 "_law_take" []) rfl
  have g1 : mg i__law_take.name = some (.ref (He.ga K "_law_take")) := glo_all X G0 c.d (by decide +kernel)
  have k1 : ∀ sh ∈ i__law_take.shapes, KSh K fd1 i__law_take.ps sh := (kshs_cons (ksh_pos (n := 2) F1 rfl fun _ _ _ _ _ _ us hl => match us, hl with | [_, _], _ => by kernel_rfl) kshs_nil)
  obtain ⟨fd2, F2⟩ := c.d.def_ 2 (d := dd 67 "_law_drawn" []) rfl
  have g2 : mg i__law_drawn.name = some (.ref (He.ga K "_law_drawn")) := glo_all X G0 c.d (by decide +kernel)
  have k2 : ∀ sh ∈ i__law_drawn.shapes, KSh K fd2 i__law_drawn.ps sh := (kshs_cons (ksh_pos (n := 1) F2 rfl fun _ _ _ _ _ _ us hl => match us, hl with | [_], _ => by kernel_rfl) kshs_nil)
  obtain ⟨fd3, F3⟩ := c.d.def_ 3 (d := dd 66 "_law_is_name" []) rfl
  have g3 : mg i__law_is_name.name = some (.ref (He.ga K "_law_is_name")) := glo_all X G0 c.d (by decide +kernel)
  have k3 : ∀ sh ∈ i__law_is_name.shapes, KSh K fd3 i__law_is_name.ps sh := (kshs_cons (ksh_pos (n := 1) F3 rfl fun _ _ _ _ _ _ us hl => match us, hl with | [_], _ => by kernel_rfl) kshs_nil)
  obtain ⟨fd4, F4⟩ := c.d.def_ 4 (d := dd 33 "is_name" []) rfl
  have g4 : mg i_is_name.name = some (.ref (He.ga K "is_name")) := glo_all X G0 c.d (by decide +kernel)
  have k4 : ∀ sh ∈ i_is_name.shapes, KSh K fd4 i_is_name.ps sh := (kshs_cons (ksh_pos (n := 1) F4 rfl fun _ _ _ _ _ _ us hl => match us, hl with | [_], _ => by kernel_rfl) (kshs_cons (ksh_kw (n := 0) (ks := ["thing"]) (pl := [.k 0]) F4 rfl fun _ _ _ _ _ _ us ws h1 h2 => match us, ws, h1, h2 with | [], [w0], _, _ => ⟨[w0], rfl, rfl, by kernel_rfl⟩) kshs_nil))
  obtain ⟨fd5, F5⟩ := c.d.def_ 5 (d := dd 31 "is_whole" []) rfl
  have g5 : mg i_is_whole.name = some (.ref (He.ga K "is_whole")) := glo_all X G0 c.d (by decide +kernel)
  have k5 : ∀ sh ∈ i_is_whole.shapes, KSh K fd5 i_is_whole.ps sh := (kshs_cons (ksh_pos (n := 1) F5 rfl fun _ _ _ _ _ _ us hl => match us, hl with | [_], _ => by kernel_rfl) kshs_nil)
  obtain ⟨fd6, F6⟩ := c.d.def_ 6 (d := dd 32 "is_between" []) rfl
  have g6 : mg i_is_between.name = some (.ref (He.ga K "is_between")) := glo_all X G0 c.d (by decide +kernel)
  have k6 : ∀ sh ∈ i_is_between.shapes, KSh K fd6 i_is_between.ps sh := (kshs_cons (ksh_pos (n := 3) F6 rfl fun _ _ _ _ _ _ us hl => match us, hl with | [_, _, _], _ => by kernel_rfl) kshs_nil)
  obtain ⟨fd7, F7⟩ := c.d.def_ 7 (d := dd 51 "divisor" []) rfl
  have g7 : mg i_divisor.name = some (.ref (He.ga K "divisor")) := glo_all X G0 c.d (by decide +kernel)
  have k7 : ∀ sh ∈ i_divisor.shapes, KSh K fd7 i_divisor.ps sh := (kshs_cons (ksh_pos (n := 2) F7 rfl fun _ _ _ _ _ _ us hl => match us, hl with | [_, _], _ => by kernel_rfl) kshs_nil)
  obtain ⟨fd8, F8⟩ := c.d.def_ 8 (d := dd 52 "is_share" []) rfl
  have g8 : mg i_is_share.name = some (.ref (He.ga K "is_share")) := glo_all X G0 c.d (by decide +kernel)
  have k8 : ∀ sh ∈ i_is_share.shapes, KSh K fd8 i_is_share.ps sh := (kshs_cons (ksh_pos (n := 1) F8 rfl fun _ _ _ _ _ _ us hl => match us, hl with | [_], _ => by kernel_rfl) kshs_nil)
  obtain ⟨fd9, F9⟩ := c.d.def_ 9 (d := dd 53 "are_shares" []) rfl
  have g9 : mg i_are_shares.name = some (.ref (He.ga K "are_shares")) := glo_all X G0 c.d (by decide +kernel)
  have k9 : ∀ sh ∈ i_are_shares.shapes, KSh K fd9 i_are_shares.ps sh := (kshs_cons (ksh_pos (n := 1) F9 rfl fun _ _ _ _ _ _ us hl => match us, hl with | [_], _ => by kernel_rfl) kshs_nil)
  obtain ⟨fd10, F10⟩ := c.d.def_ 10 (d := dd 54 "parts_by" []) rfl
  have g10 : mg i_parts_by.name = some (.ref (He.ga K "parts_by")) := glo_all X G0 c.d (by decide +kernel)
  have k10 : ∀ sh ∈ i_parts_by.shapes, KSh K fd10 i_parts_by.ps sh := (kshs_cons (ksh_pos (n := 2) F10 rfl fun _ _ _ _ _ _ us hl => match us, hl with | [_, _], _ => by kernel_rfl) kshs_nil)
  obtain ⟨fd11, F11⟩ := c.d.def_ 11 (d := dd 55 "split_by" []) rfl
  have g11 : mg i_split_by.name = some (.ref (He.ga K "split_by")) := glo_all X G0 c.d (by decide +kernel)
  have k11 : ∀ sh ∈ i_split_by.shapes, KSh K fd11 i_split_by.ps sh := (kshs_cons (ksh_pos (n := 2) F11 rfl fun _ _ _ _ _ _ us hl => match us, hl with | [_, _], _ => by kernel_rfl) kshs_nil)
  obtain ⟨fd12, F12⟩ := c.d.def_ 12 (d := dd 56 "parted" []) rfl
  have g12 : mg i_parted.name = some (.ref (He.ga K "parted")) := glo_all X G0 c.d (by decide +kernel)
  have k12 : ∀ sh ∈ i_parted.shapes, KSh K fd12 i_parted.ps sh := (kshs_cons (ksh_pos (n := 2) F12 rfl fun _ _ _ _ _ _ us hl => match us, hl with | [_, _], _ => by kernel_rfl) kshs_nil)
  obtain ⟨fd13, F13⟩ := c.d.def_ 13 (d := dd 37 "is_day" []) rfl
  have g13 : mg i_is_day.name = some (.ref (He.ga K "is_day")) := glo_all X G0 c.d (by decide +kernel)
  have k13 : ∀ sh ∈ i_is_day.shapes, KSh K fd13 i_is_day.ps sh := (kshs_cons (ksh_pos (n := 1) F13 rfl fun _ _ _ _ _ _ us hl => match us, hl with | [_], _ => by kernel_rfl) kshs_nil)
  obtain ⟨fd14, F14⟩ := c.d.def_ 14 (d := dd 59 "is_death" []) rfl
  have g14 : mg i_is_death.name = some (.ref (He.ga K "is_death")) := glo_all X G0 c.d (by decide +kernel)
  have k14 : ∀ sh ∈ i_is_death.shapes, KSh K fd14 i_is_death.ps sh := (kshs_cons (ksh_pos (n := 1) F14 rfl fun _ _ _ _ _ _ us hl => match us, hl with | [_], _ => by kernel_rfl) kshs_nil)
  obtain ⟨fd15, F15⟩ := c.d.def_ 15 (d := dd 60 "check_deaths" []) rfl
  have g15 : mg i_check_deaths.name = some (.ref (He.ga K "check_deaths")) := glo_all X G0 c.d (by decide +kernel)
  have k15 : ∀ sh ∈ i_check_deaths.shapes, KSh K fd15 i_check_deaths.ps sh := (kshs_cons (ksh_pos (n := 1) F15 rfl fun _ _ _ _ _ _ us hl => match us, hl with | [_], _ => by kernel_rfl) kshs_nil)
  obtain ⟨fd16, F16⟩ := c.d.def_ 16 (d := dm 61 0 "Story" "__init__" "Story.__init__" [.non]) rfl
  have k16 : ∀ sh ∈ i_Story_M___init__.shapes, KSh K fd16 i_Story_M___init__.ps sh := (kshs_cons (ksh_dfl (n := 2) (cs := []) F16 1 (by intro h; cases h) rfl (fun _ _ => rfl) fun T kV doc pm an cdv ct us its h1 h2 => match us, its, h1, h2 with | [u0, u1], [d0], _, _ => ⟨_, rfl, rfl⟩) kshs_nil)
  obtain ⟨fd17, F17⟩ := c.d.def_ 17 (d := dd 42 "is_person" []) rfl
  have g17 : mg i_is_person.name = some (.ref (He.ga K "is_person")) := glo_all X G0 c.d (by decide +kernel)
  have k17 : ∀ sh ∈ i_is_person.shapes, KSh K fd17 i_is_person.ps sh := (kshs_cons (ksh_pos (n := 2) F17 rfl fun _ _ _ _ _ _ us hl => match us, hl with | [_, _], _ => by kernel_rfl) kshs_nil)
  obtain ⟨fd18, F18⟩ := c.d.def_ 18 (d := dd 43 "check_people" []) rfl
  have g18 : mg i_check_people.name = some (.ref (He.ga K "check_people")) := glo_all X G0 c.d (by decide +kernel)
  have k18 : ∀ sh ∈ i_check_people.shapes, KSh K fd18 i_check_people.ps sh := (kshs_cons (ksh_pos (n := 1) F18 rfl fun _ _ _ _ _ _ us hl => match us, hl with | [_], _ => by kernel_rfl) kshs_nil)
  obtain ⟨fd19, F19⟩ := c.d.def_ 19 (d := dd 35 "is_sum" []) rfl
  have g19 : mg i_is_sum.name = some (.ref (He.ga K "is_sum")) := glo_all X G0 c.d (by decide +kernel)
  have k19 : ∀ sh ∈ i_is_sum.shapes, KSh K fd19 i_is_sum.ps sh := (kshs_cons (ksh_pos (n := 1) F19 rfl fun _ _ _ _ _ _ us hl => match us, hl with | [_], _ => by kernel_rfl) kshs_nil)
  obtain ⟨fd20, F20⟩ := c.d.def_ 20 (d := dd 44 "is_ware" []) rfl
  have g20 : mg i_is_ware.name = some (.ref (He.ga K "is_ware")) := glo_all X G0 c.d (by decide +kernel)
  have k20 : ∀ sh ∈ i_is_ware.shapes, KSh K fd20 i_is_ware.ps sh := (kshs_cons (ksh_pos (n := 2) F20 rfl fun _ _ _ _ _ _ us hl => match us, hl with | [_, _], _ => by kernel_rfl) kshs_nil)
  obtain ⟨fd21, F21⟩ := c.d.def_ 21 (d := dd 45 "check_goods" []) rfl
  have g21 : mg i_check_goods.name = some (.ref (He.ga K "check_goods")) := glo_all X G0 c.d (by decide +kernel)
  have k21 : ∀ sh ∈ i_check_goods.shapes, KSh K fd21 i_check_goods.ps sh := (kshs_cons (ksh_pos (n := 1) F21 rfl fun _ _ _ _ _ _ us hl => match us, hl with | [_], _ => by kernel_rfl) kshs_nil)
  obtain ⟨fd22, F22⟩ := c.d.def_ 22 (d := dd 36 "check_sum" []) rfl
  have g22 : mg i_check_sum.name = some (.ref (He.ga K "check_sum")) := glo_all X G0 c.d (by decide +kernel)
  have k22 : ∀ sh ∈ i_check_sum.shapes, KSh K fd22 i_check_sum.ps sh := (kshs_cons (ksh_pos (n := 1) F22 rfl fun _ _ _ _ _ _ us hl => match us, hl with | [_], _ => by kernel_rfl) kshs_nil)
  obtain ⟨fd23, F23⟩ := c.d.def_ 23 (d := dm 46 0 "House" "__init__" "House.__init__" [.non, .int 0, .int 0]) rfl
  have k23 : ∀ sh ∈ i_House_M___init__.shapes, KSh K fd23 i_House_M___init__.ps sh := (kshs_cons (ksh_dfl (n := 2) (cs := [.cn, .ci 0, .ci 0]) F23 0 (by intro h; cases h) rfl (fun _ _ => rfl) fun T kV doc pm an cdv ct us its h1 h2 => match us, its, h1, h2 with | [u0, u1], [d0, d1, d2], _, _ => ⟨_, rfl, rfl⟩) kshs_nil)
  obtain ⟨fd24, F24⟩ := c.d.def_ 24 (d := dd 65 "_law_sort" []) rfl
  have g24 : mg i__law_sort.name = some (.ref (He.ga K "_law_sort")) := glo_all X G0 c.d (by decide +kernel)
  have k24 : ∀ sh ∈ i__law_sort.shapes, KSh K fd24 i__law_sort.ps sh := (kshs_cons (ksh_pos (n := 1) F24 rfl fun _ _ _ _ _ _ us hl => match us, hl with | [_], _ => by kernel_rfl) kshs_nil)
  obtain ⟨fd25, F25⟩ := c.d.def_ 25 (d := dd 68 "_law_refused" []) rfl
  have g25 : mg i__law_refused.name = some (.ref (He.ga K "_law_refused")) := glo_all X G0 c.d (by decide +kernel)
  have k25 : ∀ sh ∈ i__law_refused.shapes, KSh K fd25 i__law_refused.ps sh := (kshs_cons (ksh_pos (n := 2) F25 rfl fun _ _ _ _ _ _ us hl => match us, hl with | [_, _], _ => by kernel_rfl) kshs_nil)
  obtain ⟨fd26, F26⟩ := c.d.def_ 26 (d := dd 69 "law" []) rfl
  have g26 : mg i_law.name = some (.ref (He.ga K "law")) := glo_all X G0 c.d (by decide +kernel)
  have e := hfa.symm.trans g26
  cases e
  obtain ⟨fx0, FX0⟩ := c.d.def_ 27 (d := dm 5 0 "NoSum" "__init__" "NoSum.__init__" []) rfl
  have B0 : Binds K fx0 ["self", "thing"] [] := FunD.bindsN FX0 fun _ _ _ _ _ _ us hl => match us, hl with | [_, _], _ => by kernel_rfl
  obtain ⟨fx1, FX1⟩ := c.d.def_ 28 (d := dm 10 0 "NoStory" "__init__" "NoStory.__init__" []) rfl
  have B1 : Binds K fx1 ["self", "number"] [] := FunD.bindsN FX1 fun _ _ _ _ _ _ us hl => match us, hl with | [_, _], _ => by kernel_rfl
  obtain ⟨fx2, FX2⟩ := c.d.def_ 29 (d := dm 7 0 "NoPeople" "__init__" "NoPeople.__init__" []) rfl
  have B2 : Binds K fx2 ["self", "number"] [] := FunD.bindsN FX2 fun _ _ _ _ _ _ us hl => match us, hl with | [_, _], _ => by kernel_rfl
  obtain ⟨fx3, FX3⟩ := c.d.def_ 30 (d := dm 8 0 "NoGoods" "__init__" "NoGoods.__init__" []) rfl
  have B3 : Binds K fx3 ["self", "number"] [] := FunD.bindsN FX3 fun _ _ _ _ _ _ us hl => match us, hl with | [_, _], _ => by kernel_rfl
  have b := FunD.bindsA (ps := ["script"]) F26 fun _ _ _ _ _ _ us hl => match us, hl with | [_], _ => by kernel_rfl
  refine ⟨fd26, fun s v => b s [v] rfl, fun base _ _ => ?_⟩
  have hi : IniAll P w K mg base tb.xs := (ini_none (ini_some (iniOk_of (b := .v) (W := "WordError") X G0 c.c FX0 rfl (by decide) ini_NoSum (by decide +kernel) (by decide +kernel) B0) (ini_none (ini_some (iniOk_of (b := .v) (W := "WordError") X G0 c.c FX1 rfl (by decide) ini_NoStory (by decide +kernel) (by decide +kernel) B1) (ini_some (iniOk_of (b := .v) (W := "WordError") X G0 c.c FX2 rfl (by decide) ini_NoPeople (by decide +kernel) (by decide +kernel) B2) (ini_some (iniOk_of (b := .v) (W := "WordError") X G0 c.c FX3 rfl (by decide) ini_NoGoods (by decide +kernel) (by decide +kernel) B3) (ini_name (ini_name (ini_none (ini_name (ini_name (ini_name (ini_none (ini_name (ini_name (ini_name (ini_name (ini_name (ini_none (ini_name (ini_none (ini_name (ini_none (ini_none ini_nil))))))))))))))))))))))))
  have hK : KOk P w K mg base G tb.clss tb.exs 4 := kOk_of X G0 c.c rfl rfl rfl rfl rfl rfl hi
  have A0 : All P w K mg base G 4 T0 := .nil
  have A1 : All P w K mg base G 8 T1 := A0.cons (fn_mk F0 rfl g0 k0 (fn_ok F0 s__law_pool hfree hcn hK (by decide) A0 m__law_pool w__law_pool)) fun s sh e => by
    show ((shs 200)[s]?).getD _ = sh
    rw [show shs 200 = i__law_pool.shapes from rfl, e]; rfl
  have A2 : All P w K mg base G 12 T2 := A1.cons (fn_mk F1 rfl g1 k1 (fn_ok F1 s__law_take hfree hcn hK (by decide) A1 m__law_take w__law_take)) fun s sh e => by
    show ((shs 201)[s]?).getD _ = sh
    rw [show shs 201 = i__law_take.shapes from rfl, e]; rfl
  have A3 : All P w K mg base G 16 T3 := A2.cons (fn_mk F2 rfl g2 k2 (fn_ok F2 s__law_drawn hfree hcn hK (by decide) A2 m__law_drawn w__law_drawn)) fun s sh e => by
    show ((shs 202)[s]?).getD _ = sh
    rw [show shs 202 = i__law_drawn.shapes from rfl, e]; rfl
  have A4 : All P w K mg base G 20 T4 := A3.cons (fn_mk F3 rfl g3 k3 (fn_ok F3 s__law_is_name hfree hcn hK (by decide) A3 m__law_is_name w__law_is_name)) fun s sh e => by
    show ((shs 203)[s]?).getD _ = sh
    rw [show shs 203 = i__law_is_name.shapes from rfl, e]; rfl
  have A5 : All P w K mg base G 24 T5 := A4.cons (fn_mk F4 rfl g4 k4 (fn_ok F4 s_is_name hfree hcn hK (by decide) A4 m_is_name w_is_name)) fun s sh e => by
    show ((shs 0)[s]?).getD _ = sh
    rw [show shs 0 = i_is_name.shapes from rfl, e]; rfl
  have A6 : All P w K mg base G 28 T6 := A5.cons (fn_mk F5 rfl g5 k5 (fn_ok F5 s_is_whole hfree hcn hK (by decide) A5 m_is_whole w_is_whole)) fun s sh e => by
    show ((shs 1)[s]?).getD _ = sh
    rw [show shs 1 = i_is_whole.shapes from rfl, e]; rfl
  have A7 : All P w K mg base G 32 T7 := A6.cons (fn_mk F6 rfl g6 k6 (fn_ok F6 s_is_between hfree hcn hK (by decide) A6 m_is_between w_is_between)) fun s sh e => by
    show ((shs 2)[s]?).getD _ = sh
    rw [show shs 2 = i_is_between.shapes from rfl, e]; rfl
  have A8 : All P w K mg base G 36 T8 := A7.cons (fn_mk F7 rfl g7 k7 (fn_ok F7 s_divisor hfree hcn hK (by decide) A7 m_divisor w_divisor)) fun s sh e => by
    show ((shs 3)[s]?).getD _ = sh
    rw [show shs 3 = i_divisor.shapes from rfl, e]; rfl
  have A9 : All P w K mg base G 40 T9 := A8.cons (fn_mk F8 rfl g8 k8 (fn_ok F8 s_is_share hfree hcn hK (by decide) A8 m_is_share w_is_share)) fun s sh e => by
    show ((shs 4)[s]?).getD _ = sh
    rw [show shs 4 = i_is_share.shapes from rfl, e]; rfl
  have A10 : All P w K mg base G 44 T10 := A9.cons (fn_mk F9 rfl g9 k9 (fn_ok F9 s_are_shares hfree hcn hK (by decide) A9 m_are_shares w_are_shares)) fun s sh e => by
    show ((shs 5)[s]?).getD _ = sh
    rw [show shs 5 = i_are_shares.shapes from rfl, e]; rfl
  have A11 : All P w K mg base G 48 T11 := A10.cons (fn_mk F10 rfl g10 k10 (fn_ok F10 s_parts_by hfree hcn hK (by decide) A10 m_parts_by w_parts_by)) fun s sh e => by
    show ((shs 6)[s]?).getD _ = sh
    rw [show shs 6 = i_parts_by.shapes from rfl, e]; rfl
  have A12 : All P w K mg base G 52 T12 := A11.cons (fn_mk F11 rfl g11 k11 (fn_ok F11 s_split_by hfree hcn hK (by decide) A11 m_split_by w_split_by)) fun s sh e => by
    show ((shs 7)[s]?).getD _ = sh
    rw [show shs 7 = i_split_by.shapes from rfl, e]; rfl
  have A13 : All P w K mg base G 56 T13 := A12.cons (fn_mk F12 rfl g12 k12 (fn_ok F12 s_parted hfree hcn hK (by decide) A12 m_parted w_parted)) fun s sh e => by
    show ((shs 8)[s]?).getD _ = sh
    rw [show shs 8 = i_parted.shapes from rfl, e]; rfl
  have A14 : All P w K mg base G 60 T14 := A13.cons (fn_mk F13 rfl g13 k13 (fn_ok F13 s_is_day hfree hcn hK (by decide) A13 m_is_day w_is_day)) fun s sh e => by
    show ((shs 9)[s]?).getD _ = sh
    rw [show shs 9 = i_is_day.shapes from rfl, e]; rfl
  have A15 : All P w K mg base G 64 T15 := A14.cons (fn_mk F14 rfl g14 k14 (fn_ok F14 s_is_death hfree hcn hK (by decide) A14 m_is_death w_is_death)) fun s sh e => by
    show ((shs 10)[s]?).getD _ = sh
    rw [show shs 10 = i_is_death.shapes from rfl, e]; rfl
  have A16 : All P w K mg base G 68 T16 := A15.cons (fn_mk F15 rfl g15 k15 (fn_ok F15 s_check_deaths hfree hcn hK (by decide) A15 m_check_deaths w_check_deaths)) fun s sh e => by
    show ((shs 11)[s]?).getD _ = sh
    rw [show shs 11 = i_check_deaths.shapes from rfl, e]; rfl
  have A17 : All P w K mg base G 72 T17 := A16.cons (fn_mkM F16 rfl rfl (hK.cls _ (by decide +kernel)).cls (more_all c.d (List.mem_of_getElem? (i := 0) (show more[0]? = some _ from rfl))) k16 (fn_ok F16 s_Story_M___init__ hfree hcn hK (by decide) A16 m_Story_M___init__ w_Story_M___init__)) fun s sh e => by
    show ((shs 12)[s]?).getD _ = sh
    rw [show shs 12 = i_Story_M___init__.shapes from rfl, e]; rfl
  have A18 : All P w K mg base G 76 T18 := A17.cons (fn_mk F17 rfl g17 k17 (fn_ok F17 s_is_person hfree hcn hK (by decide) A17 m_is_person w_is_person)) fun s sh e => by
    show ((shs 13)[s]?).getD _ = sh
    rw [show shs 13 = i_is_person.shapes from rfl, e]; rfl
  have A19 : All P w K mg base G 80 T19 := A18.cons (fn_mk F18 rfl g18 k18 (fn_ok F18 s_check_people hfree hcn hK (by decide) A18 m_check_people w_check_people)) fun s sh e => by
    show ((shs 14)[s]?).getD _ = sh
    rw [show shs 14 = i_check_people.shapes from rfl, e]; rfl
  have A20 : All P w K mg base G 84 T20 := A19.cons (fn_mk F19 rfl g19 k19 (fn_ok F19 s_is_sum hfree hcn hK (by decide) A19 m_is_sum w_is_sum)) fun s sh e => by
    show ((shs 15)[s]?).getD _ = sh
    rw [show shs 15 = i_is_sum.shapes from rfl, e]; rfl
  have A21 : All P w K mg base G 88 T21 := A20.cons (fn_mk F20 rfl g20 k20 (fn_ok F20 s_is_ware hfree hcn hK (by decide) A20 m_is_ware w_is_ware)) fun s sh e => by
    show ((shs 16)[s]?).getD _ = sh
    rw [show shs 16 = i_is_ware.shapes from rfl, e]; rfl
  have A22 : All P w K mg base G 92 T22 := A21.cons (fn_mk F21 rfl g21 k21 (fn_ok F21 s_check_goods hfree hcn hK (by decide) A21 m_check_goods w_check_goods)) fun s sh e => by
    show ((shs 17)[s]?).getD _ = sh
    rw [show shs 17 = i_check_goods.shapes from rfl, e]; rfl
  have A23 : All P w K mg base G 96 T23 := A22.cons (fn_mk F22 rfl g22 k22 (fn_ok F22 s_check_sum hfree hcn hK (by decide) A22 m_check_sum w_check_sum)) fun s sh e => by
    show ((shs 18)[s]?).getD _ = sh
    rw [show shs 18 = i_check_sum.shapes from rfl, e]; rfl
  have A24 : All P w K mg base G 100 T24 := A23.cons (fn_mkM F23 rfl rfl (hK.cls _ (by decide +kernel)).cls (more_all c.d (List.mem_of_getElem? (i := 1) (show more[1]? = some _ from rfl))) k23 (fn_ok F23 s_House_M___init__ hfree hcn hK (by decide) A23 m_House_M___init__ w_House_M___init__)) fun s sh e => by
    show ((shs 19)[s]?).getD _ = sh
    rw [show shs 19 = i_House_M___init__.shapes from rfl, e]; rfl
  have A25 : All P w K mg base G 104 T25 := A24.cons (fn_mk F24 rfl g24 k24 (fn_ok F24 s__law_sort hfree hcn hK (by decide) A24 m__law_sort w__law_sort)) fun s sh e => by
    show ((shs 204)[s]?).getD _ = sh
    rw [show shs 204 = i__law_sort.shapes from rfl, e]; rfl
  have A26 : All P w K mg base G 108 T26 := A25.cons (fn_mk F25 rfl g25 k25 (fn_ok F25 s__law_refused hfree hcn hK (by decide) A25 m__law_refused w__law_refused)) fun s sh e => by
    show ((shs 205)[s]?).getD _ = sh
    rw [show shs 205 = i__law_refused.shapes from rfl, e]; rfl
  exact fn_ok (i := i_law) F26 s_law hfree hcn hK (by decide) A26 m_law w_law
end K01
open PySem PySem.W PySem.Calls PyProof.Rows
theorem PySem.Challenge.cw_willdealt_k01_names_of_any_kind_holds : PySem.Challenge.rw_willdealt_k01_names_of_any_kind.Holds := by
  w_on; o_law
  refine HandSHeadRun.head_any (r := OpenLaw.row PySem.Challenge.rw_willdealt_k01_names_of_any_kind) (q := view (OpenLaw.row PySem.Challenge.rw_willdealt_k01_names_of_any_kind).prog [69]) (H := K01.hk) (ob := K01.ob) (M := 12000) (loose := K01.loose) (d := HandSHeadRun.topDef (OpenLaw.row PySem.Challenge.rw_willdealt_k01_names_of_any_kind).prog 69) (kwd := []) K01.ob_eq
    (by kernel_rfl) (fun s => by kernel_rfl) K01.run (by kernel_rfl) (by kernel_rfl) (by kernel_rfl) (by rfl) (by first | assumption | decide +kernel) (by decide +kernel) ⟨rfl, rfl, rfl, rfl, rfl, by decide +kernel⟩ ?hw ?hc
  case hw => w_witness2
  case hc =>
    refine Y.walkY (l := PySem.Challenge.rw_willdealt_k01_names_of_any_kind) (n := 63) (k := 112) (x := "script") rfl (by decide) (by kernel_rfl) ⟨rfl, by decide, by decide⟩ ?F
    intro w mg fa h Yh G hmg0
    obtain ⟨K, KX, c⟩ := Yh
    have hmg : mg ("law" : PySem.Str) = some (.ref fa) := by
      have e : (HandSHeadRun.topDef (OpenLaw.row PySem.Challenge.rw_willdealt_k01_names_of_any_kind).prog 69).name = ("law" : PySem.Str) := by kernel_rfl
      rw [← e]
      exact hmg0
    obtain ⟨fd, hb, hF⟩ := K01.facts (P := (PySem.Challenge.rw_willdealt_k01_names_of_any_kind).prog) (w := w) KX G hmg c
    exact ⟨K, fd, KX, hb, hF⟩
